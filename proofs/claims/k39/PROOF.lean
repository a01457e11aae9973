import PyProof.Rows.All
import Wide.All
import OpenK.AllK
import Wide.FinOn
import KE.KStateDown
import KE.KExcSuper
import Lean
import HandS.ForMost
import HandS.ForExc
import HandS.ExcInit
import HandS.ExcSuper
import HandS.ExcField
import HandS.ExcIs
import HandS.IsInst
import HandS.Defaults
import HandS.Replace
import HandS.ReplaceLit
import HandS.ReplaceDef
import HandS.Head0
import HandS.Head1
import HandS.Head2
import HandS.HeadEnd
import HandS.HeadHook1
import HandS.HeadHook2
import HandS.Wide
import HandS.IterVal
import HandS.Text
import KE.GoesMore
import HandS.More
import HandS.TupAny
import HandS.WideBits
import HandS.Ends
import PyProof.ReprRoads
import PyProof.CallFns
import HandS.TupLe
import HandS.StrMore
import PyProof.Rows.StrPadFill
import PyProof.Rows.StrPadWhole
import KE.KIsAll
import HandS.OwnEq
import HandS.HotCalls
import HandS.Codes
import KE.KOwnIter
import PyProof.InstEq
import HandS.OwnIter
import PyProof.Rows.SortShellAny
import HandS.Strs
import HandS.Conv
import HandS.Style
import HandS.Set
import HandS.SetBool
import HandS.SetKeys
import KE.KCallOwn
import HandS.Steps
import HandS.SetFor
import PyProof.EqKinds
import KE.SortData
import KE.DataCmp
import HandS.Walk
import HandS.TryMany
import HandS.ClsMeth
import HandS.HeadNt
import HandS.SortInts
import HandS.SortOrd
import HandS.ExcOwn
import HandS.Property
import HandS.HeadHook3
import PyProof.StrWalks
import HandS.CallSlots
import HandS.Dict
import PyProof.DictUpdate
import PyProof.DictTable
import HandS.RaiseMore
import PySem.Challenge.RW_fablemill_k39_forms_written
set_option Elab.async false
set_option linter.all false
set_option maxRecDepth 100000
set_option maxHeartbeats 4000000
/-! Own errors of the shape: class C(FableError): def __init__(self, f): super().__init__('..'); self.f = f -/
namespace Fx
open PySem PySem.W PySem.Calls PyProof.Rows PySem.HandSPX
/-- the text of such an __init__ -/
def xA (f : Str) (p1 p2 : Pos) : Arguments := { posonlyargs := [], args := [{ arg := "self", annotation := none, pos := p1 }, { arg := f, annotation := none, pos := p2 }], vararg := none, kwonlyargs := [], kw_defaults := [], kwarg := none, defaults := [] }
def xB (f m : Str) (q1 q2 q3 q4 q5 q6 q7 q8 q9 q10 : Pos) : List Stmt :=
  [.Expr (.Call (.Attribute (.Call (.Name "super" q1) [] [] q2) "__init__" q3) [.Constant (.str m) 0 q4] [] q5) q6,
   .Assign [.Attribute (.Name "self" q7) f q8] (.Name f q9) q10]
def xS (f : Str) : Scope := { kind := .function, names := [(PySem.Str.ofString "self", .local), (f, .local), (PySem.Str.ofString "__class__", .free), (PySem.Str.ofString "super", .globalImplicit)], isGenerator := false, isCoroutine := false, more := [] }
/-- a field's name that does not clash -/
structure FOk (f : Str) : Prop where
  ns : f ≠ "self"
  nc : f ≠ "__class__"
  nu : f ≠ "super"
  nd : (f == ("__debug__" : Str)) = false
theorem FOk.mk' {f : Str} (h1 : decide (f ≠ "self") = true) (h2 : decide (f ≠ "__class__") = true) (h3 : decide (f ≠ "super") = true) (h4 : (f == ("__debug__" : Str)) = false) : FOk f :=
  ⟨of_decide_eq_true h1, of_decide_eq_true h2, of_decide_eq_true h3, h4⟩
/-- what the written part says of the class at C, its name x, its field f -/
structure XC (K : Frag) (P : Program) (x f : Str) (C : Addr) : Prop where
  fo : FOk f
  cls : ∃ nm q N bs bm sn sub ab col dd k0 k1 k2 k3 k5, K.lookup C = some (excClassObj nm q C N bs bm true sn sub ab col dd k0 k1 k2 k3 k5 "ValueError.__new__") ∧ refsVE bm = true ∧ alongIn K "__init__" bm = some (some (.builtin "ValueError.__init__"))
  sa : findIn K (.ref C) "__setattr__" = some (some (.builtin "object.__setattr__"))
  ga : findIn K (.ref C) "__getattribute__" = some (some (.builtin "BaseException.__getattribute__"))
  gg : findIn K (.ref C) "__getattr__" = some none
  noF : findIn K (.ref C) f = some none
  kC : keepIn K (.ref C) = true
  exC : subIn K (.ref C) (.type "BaseException") = some true
  veC : subIn K (.ref C) (.type "ValueError") = some true
  tyC : typeIn K (.ref C) = some (.type "type")
  hdC : hasDictIn K C = true
  op : nsIn K cStatics "thirdparty.any" = some none
  init : ∃ (fI : Addr), findIn K (.ref C) "__init__" = some (some (.ref fI)) ∧ typeIn K (.ref fI) = some (.type "function") ∧
    ∃ (qual m : Str) (oc : Value) (od : Option Addr) (kV doc pm : Value) (an : Option Addr) (cda cc : Addr) (ct : Value) (osl : Array (Option Value)) (p1 p2 q1 q2 q3 q4 q5 q6 q7 q8 q9 q10 : Pos)
      (ccl : Value) (cdd : Option Addr) (vs : Array Value) (ccs : Array (Option Value)) (tf : Tok) (cl : Value) (cld : Option Addr) (csl : Array (Option Value)),
      K.lookup fI = some ⟨oc, od, .func (ksFn "__init__" qual (xA f p1 p2) (xB f m q1 q2 q3 q4 q5 q6 q7 q8 q9 q10) (xS f) .none kV doc pm an (.ref cda) ct cc), osl⟩ ∧ codeIn K (.ref cda) qual = true ∧
      K.lookup cda = some ⟨ccl, cdd, .fields vs, ccs⟩ ∧ vs[2]? = some (.str (P.main.file : Str) tf) ∧ K.lookup cc = some ⟨cl, cld, .cell (some (.ref C)), csl⟩ ∧ (q3.endLine == q5.line) = true
  bd : ∀ (fd : FuncData) (p1 p2 : Pos), fd.params = xA f p1 p2 → fd.defaults = .none → ∀ (u1 u2 : Value), bindArgs fd ⟨[u1, u2], []⟩ = pure [(("self" : Str), u1), (f, u2)]
  top : (P.main.scope.names.lookup ("super" : Str)).isSome = false
section
variable {f : Str} (F : FOk f)
include F
theorem look_self : (xS f).names.lookup ("self" : Str) = some .local := by simp [xS, List.lookup]
theorem look_f : (xS f).names.lookup f = some .local := by
  have h1 : (f == PySem.Str.ofString "self") = false := by simpa using F.ns
  simp [xS, List.lookup, h1]
theorem look_cls : (xS f).names.lookup ("__class__" : Str) = some .free := by
  have h1 : (("__class__" : Str) == f) = false := by simpa using (Ne.symm F.nc)
  have h2 : (("__class__" : Str) == PySem.Str.ofString "self") = false := by decide
  simp [xS, List.lookup, h1, h2]
theorem look_sup : (xS f).names.lookup ("super" : Str) = some .globalImplicit := by
  have h1 : (("super" : Str) == f) = false := by simpa using (Ne.symm F.nu)
  have h2 : (("super" : Str) == PySem.Str.ofString "self") = false := by decide
  have h3 : (("super" : Str) == PySem.Str.ofString "__class__") = false := by decide
  simp [xS, List.lookup, h1, h2, h3]
end
section
variable {prog : Program} {w : World} {A : Around} {E : Value → Shared → Prop} {h : Heap} {g : Array GenState} {d : Drawn} {t : Nat} {os : OsState}
variable {nm q : Str} {C N : Addr} {bs bm : List Value} {hdct : Bool} {sn : List Str} {sub : List Value} {ab : Bool} {col : Option Bool} {dd : Option Addr} {k0 k1 k2 k3 k5 : Option Value}
theorem boot_super : bootBuiltins ("super" : Str) = some (.type "super") := by first | boot_by_name | kernel_rfl
/-- super().__init__(..) called -/
theorem call_mw {u e t0 : Addr} {rest : List Value} {Q : Value → Shared → Prop}
    (hC : h.get? C = some (excClassObj nm q C N bs bm hdct sn sub ab col dd k0 k1 k2 k3 k5 "ValueError.__new__")) (he : h.get? e = some (excO C t0)) (hu : h.get? u = some (kxs_mw "ValueError.__init__" e)) (hrest : rest.length ≤ sizeLine)
    (hq : ∀ h' t1, (∀ b o, b ≠ e → h.get? b = some o → h'.get? b = some o) → h'.get? e = some (excO C t1) → Q .none ⟨h', g, d, t, os⟩) :
    wpAny (model prog w) A (call (.ref u) rest) Q E ⟨h, g, d, t, os⟩ := by
  refine wpAny_call (codeAny_of_tree ?_)
  show wpAny _ A.in1 (callAny (.ref u) ⟨rest, []⟩) _ _ _
  simp only [callAny]
  refine wpAny_bind (wpAny_load hu ?_)
  simp only [kxs_mw, show (Value.type "method-wrapper" == Value.type "method" || Value.type "method-wrapper" == Value.type "builtin_function_or_method" || Value.type "method-wrapper" == Value.type "method-wrapper") = true by decide, if_true]
  refine KFB.if_so (by decide) ?_
  refine wpAny_bind (ESX.check_bound F.excBase_ValueError hC he rfl ?_)
  refine wpAny_bind (wpAny_pure (wpAny_pure ?_))
  refine ⟨Code.quiet_builtin _ (by decide +kernel), codeAny_builtin F.excBase_ValueError.initEntry ?_⟩
  rw [Around.under_plainId F.excBase_ValueError.init.plain _]
  wp_walk
  refine hq _ h.objs.size (fun b o hb ho => ?_) ?_
  · rw [Heap.get?_update_other _ _ (Ne.symm hb)]
    exact Heap.get?_push_of_some _ ho
  · rw [Heap.get?_update_self _ (Heap.get?_push_of_some _ he) rfl]
    rfl
end
theorem he_sup {env : Env} {m : Str} {q1 q2 q3 q4 q5 : Pos} (hp : (q3.endLine == q5.line) = true) :
    eval (.Call (.Attribute (.Call (.Name "super" q1) [] [] q2) "__init__" q3) [.Constant (.str m) 0 q4] [] q5) env = (do
      let ov ← attributeBase (.Call (.Name "super" q1) [] [] q2) "__init__" env (eval (.Call (.Name "super" q1) [] [] q2) env)
      standAt q3.atName
      let (f, first) ← holding [ov] (getMethod ov "__init__" (do return (← importBound (.Call (.Name "super" q1) [] [] q2) env).getD true))
      callWith q5 f first (backTo q5 (starEach [.Constant (.str m) 0 q4] env)) []) := by
  rw [arm_eval_Call]
  unfold methodCall methodCallPos
  simp only [hp, Bool.or_true, if_true]
  rfl
/-- what __init__ leaves of a fresh exception at x -/
structure InitEnd (h h' : Heap) (x C dx t1 : Addr) (f : Str) (v : Value) : Prop where
  keep : ∀ b o, b ≠ x → h.get? b = some o → h'.get? b = some o
  obj : h'.get? x = some { cls := .ref C, dict := some dx, data := .fields #[.ref t1, .none, .none, .none, .bool false, .none] }
  dbig : h.objs.size ≤ dx
  dne : dx ≠ x
  ns : h'.Ns1 dx (fun y => if y = f then some v else none)
/-- a made exception -/
structure OwnMade (h h' : Heap) (e C d : Addr) (f : Str) (v : Value) : Prop where
  keep : ∀ b o, h.get? b = some o → h'.get? b = some o
  new : h.objs.size ≤ e
  obj : ∃ oe vs, h'.get? e = some oe ∧ oe.cls = .ref C ∧ oe.dict = some d ∧ oe.data = .fields vs ∧ vs[1]? = some .none
  dbig : h.objs.size ≤ d
  dne : d ≠ e
  ns : h'.Ns1 d (fun y => if y = f then some v else none)
section
variable {prog : Program} {w : World} {A : Around} {E : Value → Shared → Prop} {R : Result → Shared → Prop} {s : Shared} {K : Frag} {mg mb : Str → Option Value} {x0 f : Str} {C : Addr}
theorem one_size (v : Value) : [v].length ≤ sizeLine := by
  rw [sizeLine_eq]
  exact (by decide : 1 ≤ 16777216)
theorem fx_init (T : XC K prog x0 f C) {fI : Addr} (hfI : findIn K (.ref C) "__init__" = some (some (.ref fI))) {x t0 : Addr} {v : Value} (X : K.In s.heap) (G : s.heap.Ns mainGlobals mg) (hsu : mg "super" = none) (B : s.heap.Ns builtinsNs mb) (hsb : mb "super" = bootBuiltins "super")
    (hlim : s.heap.NoLimit) (hx : s.heap.get? x = some (excO C t0)) (hnx : K.lookup x = none) (hroom : A.depth < recursionLimit)
    (hq : ∀ h' tk dx t1, InitEnd s.heap h' x C dx t1 f v → R (.ok (.ret .none)) { s with heap := h', toks := tk }) :
    codeAny (model prog w) A (.call (.ref fI) ⟨[.ref x, v], []⟩) R s := by
  obtain ⟨fI', e1, htI, qual, m, oc, od, kV, doc, pm, an, cda, cc, ct, osl, p1, p2, q1, q2, q3, q4, q5, q6, q7, q8, q9, q10, ccl, cdd, vs, ccs, tf, cl, cld, csl, ho, hcd, hcode, hvs, hcell, hps⟩ := T.init
  rw [hfI] at e1
  cases e1
  obtain ⟨nm, q, N, bs, bm, sn, sub, ab, col, dd, k0, k1, k2, k3, k5, hC, hbm, hal⟩ := T.cls
  have hcl : clsIn K C = some { name := nm, bases := bs, mro := .ref C :: bm, ns := N, qualname := q, hasDict := true, slotNames := sn, subclasses := sub, abstract := ab, collection := col, hasDel := false } := by unfold clsIn; rw [hC] <;> rfl
  refine ks_codeAny_call_defAt (fd := ksFn "__init__" qual (xA f p1 p2) (xB f m q1 q2 q3 q4 q5 q6 q7 q8 q9 q10) (xS f) .none kV doc pm an (.ref cda) ct cc) (body := xB f m q1 q2 q3 q4 q5 q6 q7 q8 q9 q10) (binds := [("self", .ref x), (f, v)]) hroom (X _ _ ho) rfl hlim (codeRec_of X hcd) rfl
    (BindsTo.of_eq (T.bd _ p1 p2 rfl rfl _ _)) ?_ ?_ (fun h₁ hns k => ?_)
  · intro y hy
    simp only [xS, List.mem_cons, List.not_mem_nil, or_false] at hy
    rcases hy with rfl | rfl | rfl | rfl <;> simp
  · intro y hy
    simp only [List.mem_cons, List.not_mem_nil, or_false] at hy
    rcases hy with rfl | rfl
    · exact look_self T.fo
    · exact look_f T.fo
  · have X1 : K.In h₁ := X.keeps k
    have hx1 := k _ _ hx
    have hC1 := X1 _ _ hC
    refine ks_wpAt_execs_cons (ks_wpAt_Expr_any (ks_wpAt_MethodCall ?_ (he_sup hps)))
    refine ks_wpAt_super_base (look_sup T.fo) (look_cls T.fo) (by decide) rfl (X1 _ _ ho) rfl rfl rfl (X1 _ _ hcode) rfl hvs (by simp) T.top ?_
    refine ks_loadName_global rfl (look_sup T.fo) (loadGlobal_builtin (G.keeps k) hsu (B.keeps k) (hsb.trans boot_super) ⟨rfl, ?_⟩)
    refine wpAny_loadName_free rfl (look_cls T.fo) rfl ⟨_, X1 _ _ hcell, rfl⟩ ?_
    refine wpAny_loadName_local rfl (look_self T.fo) hns (v := .ref x) ?_ ?_
    · have h1 : (("self" : Str) == f) = false := by simpa using (Ne.symm T.fo.ns)
      simp [List.lookup, h1]
    refine ks_wpAny_isType_cls hC1 rfl ⟨rfl, ?_⟩
    have hsub : mroIn K C (.ref C) = some true := by
      unfold mroIn
      rw [hcl]
      simp
    refine ks_wpAny_call_super hC1 rfl hx1 rfl (fun c e => by cases e) (looks_mroIn X1 hsub) (fun h2 hso k2 => ?_)
    have X2 : K.In h2 := X1.keeps k2
    have hx2 := k2 _ _ hx1
    have hxC : x ≠ C := fun e => by
      rw [e, hC1] at hx1
      cases hx1
    have I2 : InstAt h2 x (excO C t0) C none := ⟨hx2, rfl, rfl, trivial⟩
    refine kxs_getMethod kxs_ValueError hso (looks_opaque X2 T.op) (l₀ := .ref C :: bm) ?_ (ESX.drop_own C bm) X2 hal (I2.type.andThen (looks_subIn X2 T.veC)) hxC (by decide) ?_
    · exact fun A Q E s k q => wpAny_bind ((looks_clsIn X2 hcl) A _ E s k (wpAny_pure q))
    have kp : ∀ b o, h2.get? b = some o → (h2.push (kxs_mw "ValueError.__init__" x)).get? b = some o := fun b o e => Heap.get?_push_of_some _ e
    have hu : (h2.push (kxs_mw "ValueError.__init__" x)).get? h2.objs.size = some (kxs_mw "ValueError.__init__" x) := Heap.get?_push_at rfl rfl
    refine kxs_callWith (i := "ValueError.__init__") (x := x) rfl (evalArgs_plain (spliced_cons (Constant_str (k := 0) (pos := q4) (spliced_nil ⟨hu, ?_⟩))))
    refine call_mw (kp _ _ (X2 _ _ hC)) (kp _ _ hx2) hu (one_size _) (fun h3 t1 k3 hx3 => ?_)
    have kk : ∀ b o, b ≠ x → h₁.get? b = some o → h3.get? b = some o := fun b o hb e => k3 b o hb (kp _ _ (k2 _ _ e))
    have X3 : K.In h3 := fun a o e => kk a o (fun z => by rw [z, hnx] at e; cases e) (X1 a o e)
    have nL : s.heap.objs.size ≠ x := Nat.ne_of_gt (Heap.lt_size hx)
    have hns3 : h3.Ns s.heap.objs.size (fun y => [(("self" : Str), Value.ref x), (f, v)].reverse.lookup y) := by
      obtain ⟨oL, es, ep, hL, r⟩ := hns
      exact ⟨oL, es, ep, kk _ _ nL hL, r⟩
    have hfs : (f == ("self" : Str)) = false := by simpa using T.fo.ns
    have hsf : (("self" : Str) == f) = false := by simpa using (Ne.symm T.fo.ns)
    show PySem.wpAt _ _ _ (execs _ _) _ _ _
    refine ks_wpAt_execs_cons (ks_wpAt_Assign_Attr (PySem.wpAt_of_wpAny ?_))
    refine wpAny_Name (wpAny_loadName_local rfl (look_f T.fo) hns3 (v := v) (by simp [List.lookup]) ?_) T.fo.nd
    refine wpAny_Name (wpAny_loadName_local rfl (look_self T.fo) hns3 (v := .ref x) (by simp [List.lookup, hsf]) ?_) (by decide)
    refine set_plain X3 (ox := excO C t1) (od := none) ⟨hx3, rfl, rfl, trivial⟩ T.sa ?_
    refine exc_osa X3 hx3 hcl (show refsVE (.ref C :: bm) = true from hbm) rfl T.noF (fun h4 tk4 dx k4 dn dne hx4 hn4 => ?_)
    show PySem.wpAt _ _ _ (execs _ _) _ _ _
    refine PySem.wpAt_of_wpAny (wpAny_execs_nil (hq h4 tk4 dx t1 ⟨fun b o hb e => k4 b o hb (kk b o hb (k b o e)), hx4, ?_, dne, hn4⟩))
    exact Nat.le_of_lt (Nat.lt_of_lt_of_le (show s.heap.objs.size < h3.objs.size from hns3.lt) dn)
theorem fx_made (T : XC K prog x0 f C) {v : Value} (X : K.In s.heap) (G : s.heap.Ns mainGlobals mg) (hsu : mg "super" = none) (B : s.heap.Ns builtinsNs mb) (hsb : mb "super" = bootBuiltins "super") (hlim : s.heap.NoLimit) (hroom : A.depth + 1 < recursionLimit)
    (hq : ∀ h' tk e d, OwnMade s.heap h' e C d f v → R (.ok (.ret (.ref e))) { s with heap := h', toks := tk }) :
    codeAny (model prog w) A (.call (.ref C) ⟨[v], []⟩) R s := by
  obtain ⟨fI, hfI, htI, _⟩ := T.init
  obtain ⟨nm, q, N, bs, bm, sn, sub, ab, col, dd, k0, k1, k2, k3, k5, hC, hbm, hal⟩ := T.cls
  obtain ⟨hp, g, dr, tk, os⟩ := s
  have k : ∀ b o, hp.get? b = some o → ((hp.push (kdv_tup [v])).push (excO C hp.objs.size)).get? b = some o := fun b o e => Heap.get?_push_of_some _ (Heap.get?_push_of_some _ e)
  have hget : ((hp.push (kdv_tup [v])).push (excO C hp.objs.size)).get? (hp.objs.size + 1) = some (excO C hp.objs.size) := by heap_get
  have hnx : K.lookup (hp.objs.size + 1) = none := by
    cases e : K.lookup (hp.objs.size + 1) with
    | none => rfl
    | some o =>
      have z : hp.get? (hp.objs.size + 1) = some o := X _ _ e
      exact absurd (Nat.lt_of_succ_lt (Heap.lt_size z)) (Nat.lt_irrefl _)
  refine call_own F.excBase_ValueError (fun X => refsVE_contains X bm hbm) (X _ _ hC) (looks_findIn X hfI) (fun self => bind_fn X self htI) (one_size v) ?_
  refine fx_init (s := ⟨(hp.push (kdv_tup [v])).push (excO C hp.objs.size), g, dr, tk, os⟩) T hfI (X.keeps k) (G.keeps k) hsu (B.keeps k) hsb (hlim.keeps k) hget hnx ?_ fun h' tk' dx t1 ⟨k', hx, dn, dne, hns⟩ => ?_
  · show A.depth + 1 < recursionLimit
    exact hroom
  · have old : ∀ b o, hp.get? b = some o → h'.get? b = some o := fun b o e => k' b o (Nat.ne_of_lt (Nat.lt_succ_of_lt (Heap.lt_size e))) (k b o e)
    have z : hp.objs.size + 1 + 1 ≤ dx := by
      first
        | (simpa only [Heap.size_push] using dn)
        | exact dn
        | (have q := dn; rw [Heap.size_push, Heap.size_push] at q; exact q)
    exact ⟨rfl, hq h' tk' (hp.objs.size + 1) dx ⟨old, Nat.le_succ _, ⟨_, _, hx, rfl, rfl, rfl, rfl⟩, Nat.le_trans (Nat.le_trans (Nat.le_succ _) (Nat.le_succ _)) z, dne, hns⟩⟩
end
end Fx
namespace Fx
open PySem PySem.Spec PyProof.Rows L2
theorem relO_fx {f : Str} {v : V} {v' : Value} (r : RelV v v') (y : Str) : RelO (List.lookup y [(f, v)]) (if y = f then some v' else none) := by
  by_cases hw : y = f
  · subst hw
    rw [if_pos rfl]
    have q : List.lookup y [(y, v)] = some v := by simp [List.lookup]
    rw [q]
    exact r
  · rw [if_neg hw]
    have qw : (y == f) = false := by simpa using hw
    have q2 : List.lookup y [(f, v)] = none := by simp [List.lookup, qw]
    rw [q2]
    trivial
section
variable {X : Cx} {C : Addr} {x0 f : Str}
/-- C(e) -/
def tMkFx (C : Addr) (f : Str) (ta : TA) : L2.St → Hp → XK → Prop := fun σ H Q => ta σ H fun vs H1 => ∃ v, vs = [v] ∧ ∀ d, H1 d = none → Q (.ref C) (some d) (upd H1 d (.xd [(f, v)]))
theorem pmk_fx {a : Expr} {ta : TA} {p pos : Pos} {k : Nat} (T : XC X.K X.prog x0 f C) (gC : X.mg x0 = some (.ref C)) (hsu : X.mg "super" = none) (hr : Room k X.A) (ha : PA X [a] ta) (hg : Gl X x0 := by rfl) (hdb : (x0 == ("__debug__" : Str)) = false := by decide)
    (he : starEach (a :: []) X.env = (false, eval a X.env) :: starEach [] X.env := by rfl) (hpl : (backTo pos (starEach [] X.env)).any (·.1) = false := by rfl) :
    PMk X (.Call (.Name x0 p) [a] [] pos) (tMkFx C f ta) := by
  intro pins s σ H Q I h
  refine wpAny_Call_Name_kw (ld_glob I hg gC ?_ hdb)
  refine PySem.W.callWith_K (h₀ := X.base) I.ok.mod.kin T.kC (thn (ha.run pos pins s σ H _ I h) fun us s1 hh => ?_) he hpl
  obtain ⟨vs, H1, I1, r1, v, ev, q1⟩ := hh
  subst ev
  refine ⟨I1.kIn, ?_⟩
  cases r1 with
  | cons rv rn =>
    rename_i v' us'
    cases rn
    show wpAny _ _ (call (.ref C) [v']) _ _ _
    have hlim := I1.nolimit
    obtain ⟨mb, hb1, hb2⟩ := I1.mod.blt
    have G := I1.mod.glob.keeps I1.bk
    have B := hb1.keeps I1.bk
    obtain ⟨hp, g, dr, tk, os⟩ := s1
    refine wpAny_call (fx_made T I1.kIn G hsu B (hb2 _ (by decide)) hlim (by have := hr.dp; omega) fun h' tk' e d M => ?_)
    show MkP X pins σ Q (.ref e) ⟨h', g, dr, tk', os⟩
    obtain ⟨oe, fv, hoe, hc, hd, hdat, h1⟩ := M.obj
    have hns := M.ns
    obtain ⟨G', g1, g2⟩ := restrict h' fun b => decide (b ≠ e)
    have gk : ∀ b, b ≠ e → G'.get? b = h'.get? b := fun b hb => g1 b (decide_eq_true hb)
    have ge : G'.get? e = none := g2 e (by simp)
    have old : ∀ b o, hp.get? b = some o → G'.get? b = some o := fun b o q => (gk b (Nat.ne_of_lt (Nat.lt_of_lt_of_le (Heap.lt_size q) M.new))).trans (M.keep b o q)
    have ob : ObjOk X.prog X.w (upd H1 d (.xd [(f, v)])) G' d (.xd [(f, v)]) :=
      ⟨_, hns.at (fun o q => (gk d M.dne).trans q), fun y => relO_fx rv y⟩
    have J : Inv X pins σ (upd H1 d (.xd [(f, v)])) ⟨G', g, dr, tk', os⟩ := I1.laid (t' := tk') old M.dbig ob
    refine ⟨e, oe, fv, ⟨G', g, dr, tk', os⟩, _, .ref C, some d, rfl, J, fun b o q => ?_, ge, hoe, ⟨hc, hd⟩, hdat, h1, ?_, rfl, I1.bare, raises_own T.exC T.tyC, q1 d (I1.hok.fresh M.dbig)⟩
    · by_cases hb : b = e
      · have q' : G'.get? b = some o := q
        rw [hb, ge] at q'; cases q'
      · exact (gk b hb).symm.trans q
    · rw [upd_ne (Ne.symm M.dne)]
      exact I1.hok.fresh M.new
/-- raise C(e) -/
def tRaiseFx (C : Addr) (f : Str) (W : WX) (ta : TA) : TS := fun _ σ H => tMkFx C f ta σ H fun cls d H' => W cls d σ H'
theorem ps_raiseFx {a : Expr} {ta : TA} {W : WX} {p pos pos2 : Pos} {k : Nat} (hc : X.calm = true) (T : XC X.K X.prog x0 f C) (gC : X.mg x0 = some (.ref C)) (hsu : X.mg "super" = none) (hr : Room k X.A) (tk : Takes X W) (ha : PA X [a] ta) (hg : Gl X x0 := by rfl) (hdb : (x0 == ("__debug__" : Str)) = false := by decide)
    (he : starEach (a :: []) X.env = (false, eval a X.env) :: starEach [] X.env := by rfl) (hpl : (backTo pos (starEach [] X.env)).any (·.1) = false := by rfl) :
    PS X (.Raise (some (.Call (.Name x0 p) [a] [] pos)) none pos2) (tRaiseFx C f W ta) := ps_raise hc tk (pmk_fx T gC hsu hr ha hg hdb he hpl)
/-- e.f, e the exception that the suite holds -/
theorem XC.xf (T : XC X.K X.prog x0 f C) : XfC X.K C := ⟨T.ga, T.gg, T.exC, T.hdC⟩
end
end Fx
namespace PySem.W
open PySem PySem.Spec PySem.Calls PyProof.Rows
section
variable {prog : Program} {w : World} {A : Around} {E : Value → Shared → Prop} {s : Shared} {K : Frag} {x D : Addr} {ox : Obj} {od : Option Obj}
theorem fx_findObj {C : Addr} {name : Str} {a g : Value} (hc : (clsIn K C).isSome = true) (ha : findIn K (.ref C) name = some (some a)) (hg : specialIn K a "__get__" = some (some g)) (ht : takesIn K a = some true) : findObj K C od name = some (.bind g a) := by
  obtain ⟨cd, hc⟩ := Option.isSome_iff_exists.mp hc
  unfold findObj
  rw [hc, Option.bind_some, ha, Option.bind_some]
  simp [hg, ht]
theorem fx_class {Q : Option Value → Shared → Prop} (hga : findIn K (.ref D) "__getattribute__" = some (some (.builtin "BaseException.__getattribute__"))) (hgt : findIn K (.ref D) "__getattr__" = some none) (hsub : subIn K (.ref D) (.type "BaseException") = some true)
    (hdct : hasDictIn K D = true) (ha : findIn K (.ref D) "__class__" = some (some (.builtin "object.__class__")))
    (hn : specialIn K (.builtin "object.__class__") "__get__" = some (some (.builtin "getset_descriptor.__get__"))) (htk : takesIn K (.builtin "object.__class__") = some true) (hm : mroIn K D (.type "object") = some true)
    (X : K.In s.heap) (I : InstAt s.heap x ox D od) (h : Q (some (.ref D)) { s with toks := s.toks + 1 }) : wpAny (model prog w) A (getAttr? (.ref x) "__class__") Q E s := by
  have hf : findObj K D od "__class__" = some (.bind (.builtin "getset_descriptor.__get__") (.builtin "object.__class__")) := fx_findObj (by obtain ⟨cd, hc, _⟩ := any_some hdct; rw [hc]; rfl) ha hn htk
  obtain ⟨hp, g, d, t, os⟩ := s
  have L0 := I.type (M := model prog w)
  have L1 := looks_findIn (M := model prog w) X hga
  have L2 := looks_findIn (M := model prog w) X hgt
  have L3 := looks_find (M := model prog w) X I hf
  have sub : Looks (model prog w) hp (isInstance (.ref x) (.type "BaseException")) true := L0.andThen (looks_subIn X hsub)
  have hx0 : (false && onTheHeap (Value.builtin "BaseException.__getattribute__")) = false := rfl
  have hx2 : (Value.builtin "BaseException.__getattribute__" == Value.builtin "object.__getattribute__") = false := by decide +kernel
  have hx1 : (onTheHeap (Value.ref D) && Value.builtin "BaseException.__getattribute__" == Value.builtin "object.__getattribute__") = false := by rw [hx2]; rfl
  unfold getAttr? getAttrBy? getAttrBy
  refine wpAny_bind (wpAny_mkText (wpAny_bind (wpAny_attempt (wpAny_holding (wpAny_bind (L0.at (wpAny_bind (L1.at ?_))))))))
  show wpAny _ _ (if (onTheHeap (Value.ref D) && Value.builtin "BaseException.__getattribute__" == Value.builtin "object.__getattribute__") = true then _ else _) _ _ _
  rw [hx1, if_neg Bool.false_ne_true]
  unfold getAttrByItsOwn hookBefore
  refine wpAny_bind ?_
  rw [if_pos (show onTheHeap (Value.ref D) = true from rfl)]
  refine L2.at ?_
  refine wpAny_bind (wpAny_attempt (wpAny_holding ?_))
  unfold callGetattribute
  rw [hx0, if_neg Bool.false_ne_true]
  unfold boundAndCalled
  rw [PySem.F.excAttr_ValueError.ga.bind (.ref x)]
  refine wpAny_bind (wpAny_pure ?_)
  show wpAny _ _ (call (.builtin "BaseException.__getattribute__") [.ref x, .str "__class__" t]) _ _ _
  refine wpAny_call (codeAny_call_builtin PySem.F.excAttr_ValueError.ga.plain PySem.F.entry_bexc_ga ?_)
  refine @check_slot (model prog w) _ _ ⟨hp, g, d, t + 1, os⟩ "BaseException.__getattribute__" "BaseException" "__getattribute__" (.ref x) [.str "__class__" t] [] _ (by decide +kernel) (by decide +kernel) sub (PySem.F.args_bexc_ga (.ref x) (.str "__class__" t)) ?_
  unfold Builtin.«object.__getattribute__»
  refine wpAny_bind (wpAny_of_eq (a := ((Value.ref x : Value), [Value.str "__class__" t])) (by first | rfl | (simp only [slotArgs]; rfl)) ?_)
  refine wpAny_bind (wpAny_pure (wpAny_bind (L0.at (wpAny_bind (L3.at ?_)))))
  show wpAny _ _ (holding [Value.builtin "object.__class__"] (call (.builtin "getset_descriptor.__get__") [.builtin "object.__class__", .ref x, .ref D]) >>= ret) _ _ _
  refine wpAny_bind (wpAny_holding (wpAny_call (class_get (s := ⟨hp, g, d, t + 1, os⟩) (ox := ox) (od := od) X I hm ?_)))
  refine wpAny_pure ?_
  show wpAny _ _ (handedOut (.ref D)) _ _ _
  rw [handedOut_of (v := .ref D) rfl]
  first
    | exact wpAny_pure (wpAny_pure h)
    | exact wpAny_pure h
    | exact wpAny_pure (wpAny_bind (wpAny_pure (wpAny_pure h)))
theorem fx_kitx (hga : findIn K (.ref D) "__getattribute__" = some (some (.builtin "BaseException.__getattribute__"))) (hgt : findIn K (.ref D) "__getattr__" = some none) (hsub : subIn K (.ref D) (.type "BaseException") = some true) (hdct : hasDictIn K D = true) (ha : findIn K (.ref D) "__class__" = some (some (.builtin "object.__class__")))
    (hn : specialIn K (.builtin "object.__class__") "__get__" = some (some (.builtin "getset_descriptor.__get__"))) (htk : takesIn K (.builtin "object.__class__") = some true) (hm : mroIn K D (.type "object") = some true) :
    KitX K (.ref x) (.ref D) (fun h => ∃ od, InstAt h x ox D od) where
  ty := fun _ _ _ ⟨_, I⟩ => I.type
  it := fun _ _ X _ => by
    obtain ⟨cdD, hcD, _⟩ := any_some hdct
    unfold clsIn at hcD
    split at hcD
    · rename_i c' d' cd' sl' ho
      intro A' Q' E' s' k q
      unfold isType loadHead
      exact wpAny_bind (wpAny_loadPart (k _ _ (X _ _ ho)) (wpAny_pure q))
    · cases hcD
  ne := fun h tp dd its n sl X htp => by
    obtain ⟨cdD, hcD, _⟩ := any_some hdct
    refine Bool.eq_false_iff.mpr fun q => ?_
    have e : D = tp := Value.ref.inj (beq_iff_eq.mp q)
    subst e
    unfold clsIn at hcD
    split at hcD
    · rename_i c' d' cd' sl' ho
      have z := (X _ _ ho).symm.trans htp
      cases z
    · cases hcD
  ca := fun X ⟨_, I⟩ k => fx_class hga hgt hsub hdct ha hn htk hm X I k
end
end PySem.W
namespace Fx
open PySem PySem.Spec PyProof.Rows L2
/-- isinstance(e, c), e the exception that the suite holds, with its dict -/
theorem call_isX {X : Cx} {a D dd : Addr} {oe : Obj} {pn : List (Addr × Obj)} {fs : List (Str × V)} (C : ExcC X.K D) (hz : Zc (.ref D) (some dd) oe) (hf : ∃ vs, oe.data = .fields vs) :
    CallR (X.suite a ((a, oe) :: pn)) (.builtin "isinstance") (fun xs H Q => H dd = some (.xd fs) ∧ rIsE X.K D a xs H Q) := by
  intro pins s σ H xs us Q I r h
  obtain ⟨hdd, c, cv, b, rfl, hcv, e, q⟩ := h
  cases r with
  | cons rx rr =>
    cases rr with
    | cons rt rr =>
      cases rr
      cases rx
      have ec := hcv _ rt
      subst ec
      obtain ⟨hget, _⟩ := I.pin (a, oe) (List.mem_append.mpr (.inl List.mem_cons_self))
      obtain ⟨vs, hv⟩ := hf
      have hx : ObjOk X.prog X.w H s.heap dd (.xd fs) := I.hok dd _ hdd
      obtain ⟨mA, ⟨od, es, ep, ho, hrest⟩, hr⟩ := hx
      have J : PySem.W.InstAt s.heap a oe D (some od) := ⟨hget, hz.1, by unfold PySem.W.notCls; rw [hv] <;> rfl, by rw [hz.2]; exact ho⟩
      exact PySem.W.kia_one (PySem.W.fx_kitx C.hg C.hk C.hs C.hd C.ha C.hn C.ht C.hm) I.kIn ⟨_, J⟩ e (fun z => nomatch z) fun tk => ⟨.bl b, H, I.kept (t' := tk) fun _ _ z => z, rfl, q⟩
end Fx
namespace Fx
open PySem PySem.Spec PyProof.Rows L2
def clsVal : V → Option Value
  | .ref C => some (.ref C)
  | .ty n => some (.type n)
  | _ => none
/-- isinstance(e, c) in an except suite, e the exception that it holds: its class cls, its dict d -/
def rIsY (K : PySem.W.Frag) (a : Addr) (cls : Value) (d : Option Addr) : List V → Hp → VK → Prop := fun xs H Q => ∃ c, xs = [.ref a, c] ∧ ∃ D, cls = .ref D ∧ ∃ dd, d = some dd ∧ (∃ fs, H dd = some (.xd fs)) ∧ ExcC K D ∧ ∃ cv, clsVal c = some cv ∧ ∃ b, PySem.W.kitOne K (.ref D) cv = some b ∧ Q (.bl b) H
theorem call_isY {X : Cx} {a : Addr} {oe : Obj} {cls : Value} {d : Option Addr} {pn : List (Addr × Obj)} (hz : Zc cls d oe) (hf : ∃ vs, oe.data = .fields vs) :
    CallR (X.suite a ((a, oe) :: pn)) (.builtin "isinstance") (rIsY X.K a cls d) := by
  intro pins s σ H xs us Q I r h
  obtain ⟨c, e1, D, e2, dd, e3, ⟨fs, hfs⟩, C, cv, hcv, b, hb, q⟩ := h
  subst e1 e2 e3
  refine call_isX (fs := fs) C hz hf pins s σ H _ us Q I r ⟨hfs, c, cv, b, rfl, fun u ru => ?_, hb, q⟩
  cases c with
  | ref C2 => cases hcv; exact ru
  | ty n => cases hcv; exact ru
  | _ => cases hcv
theorem XC.xfc {K : PySem.W.Frag} {P : Program} {x f : Str} {C : Addr} (T : XC K P x f C) : XfC K C := ⟨T.ga, T.gg, T.exC, T.hdC⟩
end Fx
/-! The head's facts: defs, errors' classes, any further facts as tests of the written part -/
namespace FxH
open PySem PySem.Spec PyProof.Rows L2 He
def refsA (g : Addr → Option Obj) (a : Addr) : List Addr := match g a with
  | some o => refsD o
  | none => []
/-- the seen ones are the bits of a number -/
def addB (st : Nat × List Addr) (a : Addr) : Nat × List Addr := match Nat.testBit st.1 a with
  | true => st
  | false => (st.1 ||| (1 <<< a), a :: st.2)
def goB (g : Addr → Option Obj) : Nat → Nat → List Addr → List Addr
  | 0, _, f => f
  | n + 1, s, f => match (f.flatMap (refsA g)).foldl addB (s, []) with
    | (s', f') => f ++ goB g n s' f'
def asR (g : Addr → Option Obj) (n : Nat) : List Addr := goB g n ((1 <<< mainGlobals) ||| (1 <<< cStatics)) [mainGlobals, cStatics]
abbrev Fct := PySem.W.Frag → Bool
/-- an error's class: its name, its field, its __init__ -/
structure InD where
  x : Str
  f : Str
  qual : Str
  st : Stmt
abbrev FnX : Type := Option (Str × Str × Arguments × FuncBody × Scope × Addr × List Str × Value × Addr)
def fnXo (K : PySem.W.Frag) (x : Str) : FnX := match K.lookup (ma K (ga K x) "__init__") with
  | some ⟨_, _, .func fd, _⟩ => some (fd.name, fd.qualname, fd.params, fd.body, fd.scope, fd.globals, fd.closure.map (·.1), fd.defaults, fd.builtins)
  | _ => none
def InD.val (d : InD) : FnX := some ("__init__", d.qual, defArgs d.st, .stmts (defBody d.st), defScope d.st, mainGlobals, ["__class__"], .none, builtinsNs)
def clsB (K : PySem.W.Frag) (C : Addr) : Bool := match K.lookup C with
  | some ⟨.type "type", _, .cls cd, sl⟩ => (match cd.mro, sl.toList with
    | .ref C' :: bm, [_, _, _, _, some (.builtin n), _] => C' == C && (n == "ValueError.__new__" && (!cd.hasDel && (cd.hasDict && (PySem.HandSPX.refsVE bm && decide (PySem.W.alongIn K "__init__" bm = some (some (.builtin "ValueError.__init__")))))))
    | _, _ => false)
  | _ => false
theorem clsB_ok {K : PySem.W.Frag} {C : Addr} (q : clsB K C = true) : ∃ nm q N bs bm sn sub ab col dd k0 k1 k2 k3 k5, K.lookup C = some (excClassObj nm q C N bs bm true sn sub ab col dd k0 k1 k2 k3 k5 "ValueError.__new__") ∧ PySem.HandSPX.refsVE bm = true ∧ PySem.W.alongIn K "__init__" bm = some (some (.builtin "ValueError.__init__")) := by
  unfold clsB at q
  split at q
  · rename_i dd cd sl ho
    split at q
    · rename_i C' bm k0 k1 k2 k3 n k5 hm hs
      simp only [Bool.and_eq_true, beq_iff_eq, Bool.not_eq_true', decide_eq_true_eq] at q
      obtain ⟨rfl, rfl, hdel, hdct, ht, hal⟩ := q
      obtain ⟨nm, bs, mro, ns, qn, hd, sn, sub, ab, col, del⟩ := cd
      dsimp only at hm hdel hdct
      subst hm hdel hdct
      have hsl : sl = #[k0, k1, k2, k3, some (.builtin "ValueError.__new__"), k5] := by
        obtain ⟨l⟩ := sl
        simp only at hs
        rw [hs]
      subst hsl
      exact ⟨nm, qn, ns, bs, bm, sn, sub, ab, col, dd, k0, k1, k2, k3, k5, ho, ht, hal⟩
    · cases q
  · cases q
/-- the cell and the code of the __init__ -/
def iniB (K : PySem.W.Frag) (C fI : Addr) (qual file : Str) : Bool := match K.lookup fI with
  | some ⟨_, _, .func fd, _⟩ => (match fd.closure, fd.code with
    | [(_, cc)], .ref cda => PySem.W.codeIn K (.ref cda) qual && ((match K.lookup cda with
        | some ⟨_, _, .fields vs, _⟩ => (match (vs[2]? : Option Value) with
          | some (Value.str n _) => decide (n = file)
          | _ => false)
        | _ => false) && (match K.lookup cc with
        | some ⟨_, _, .cell (some (.ref D)), _⟩ => decide (D = C)
        | _ => false))
    | _, _ => false)
  | _ => false
def InD.ok (file : Str) (K : PySem.W.Frag) (d : InD) : Bool :=
  let C := ga K d.x
  let fI := ma K C "__init__"
  eqO (PySem.W.nsIn K mainGlobals d.x) (some (some (.ref C))) && (clsB K C && (eqO (PySem.W.findIn K (.ref C) "__setattr__") (some (some (.builtin "object.__setattr__"))) &&
  (eqO (PySem.W.findIn K (.ref C) "__getattribute__") (some (some (.builtin "BaseException.__getattribute__"))) && (eqO (PySem.W.findIn K (.ref C) "__getattr__") (some none) && (eqO (PySem.W.findIn K (.ref C) d.f) (some none) &&
  (PySem.W.keepIn K (.ref C) && (decide (PySem.W.subIn K (.ref C) (.type "BaseException") = some true) && (decide (PySem.W.subIn K (.ref C) (.type "ValueError") = some true) && (decide (PySem.W.typeIn K (.ref C) = some (.type "type")) &&
  (PySem.W.hasDictIn K C && (eqO (PySem.W.nsIn K cStatics "thirdparty.any") (some none) && (eqO (PySem.W.findIn K (.ref C) "__init__") (some (some (.ref fI))) && (decide (PySem.W.typeIn K (.ref fI) = some (.type "function")) && iniB K C fI d.qual file)))))))))))))
/-- what isinstance asks of an error's class -/
def excB (K : PySem.W.Frag) (x : Str) : Bool :=
  let C := ga K x
  eqO (PySem.W.findIn K (.ref C) "__getattribute__") (some (some (.builtin "BaseException.__getattribute__"))) && (eqO (PySem.W.findIn K (.ref C) "__getattr__") (some none) && (decide (PySem.W.subIn K (.ref C) (.type "BaseException") = some true) &&
  (PySem.W.hasDictIn K C && (eqO (PySem.W.findIn K (.ref C) "__class__") (some (some (.builtin "object.__class__"))) && (eqO (PySem.W.specialIn K (.builtin "object.__class__") "__get__") (some (some (.builtin "getset_descriptor.__get__"))) &&
  (decide (PySem.W.takesIn K (.builtin "object.__class__") = some true) && decide (PySem.W.mroIn K C (.type "object") = some true)))))))
theorem excB_ok {K : PySem.W.Frag} {x : Str} (h : excB K x = true) : ExcC K (ga K x) := by
  obtain ⟨h1, h⟩ := ba h
  obtain ⟨h2, h⟩ := ba h
  obtain ⟨h3, h⟩ := ba h
  obtain ⟨h4, h⟩ := ba h
  obtain ⟨h5, h⟩ := ba h
  obtain ⟨h6, h⟩ := ba h
  obtain ⟨h7, h8⟩ := ba h
  exact ⟨eqO_ok h1, eqO_ok h2, of_decide_eq_true h3, h4, eqO_ok h5, eqO_ok h6, of_decide_eq_true h7, of_decide_eq_true h8⟩
/-- the class's facts, from the hook -/
theorem InD.xc {P : Program} {K : PySem.W.Frag} {d : InD} {m : Str} {p1 p2 q1 q2 q3 q4 q5 q6 q7 q8 q9 q10 : Pos} (e : fnXo K d.x = d.val) (c : d.ok (P.main.file : Str) K = true) (fo : Fx.FOk d.f)
    (hA : defArgs d.st = Fx.xA d.f p1 p2) (hB : defBody d.st = Fx.xB d.f m q1 q2 q3 q4 q5 q6 q7 q8 q9 q10) (hS : defScope d.st = Fx.xS d.f) (hp : (q3.endLine == q5.line) = true)
    (bd : ∀ (fd : FuncData) (p1 p2 : Pos), fd.params = Fx.xA d.f p1 p2 → fd.defaults = .none → ∀ (u1 u2 : Value), bindArgs fd ⟨[u1, u2], []⟩ = pure [(("self" : Str), u1), (d.f, u2)])
    (top : (P.main.scope.names.lookup ("super" : Str)).isSome = false) : Fx.XC K P d.x d.f (ga K d.x) := by
  obtain ⟨c0, c⟩ := ba c
  obtain ⟨c1, c⟩ := ba c
  obtain ⟨c2, c⟩ := ba c
  obtain ⟨c3, c⟩ := ba c
  obtain ⟨c4, c⟩ := ba c
  obtain ⟨c5, c⟩ := ba c
  obtain ⟨c6, c⟩ := ba c
  obtain ⟨c7, c⟩ := ba c
  obtain ⟨c8, c⟩ := ba c
  obtain ⟨c9, c⟩ := ba c
  obtain ⟨c10, c⟩ := ba c
  obtain ⟨c11, c⟩ := ba c
  obtain ⟨c12, c⟩ := ba c
  obtain ⟨c13, c14⟩ := ba c
  refine ⟨fo, clsB_ok c1, eqO_ok c2, eqO_ok c3, eqO_ok c4, eqO_ok c5, c6, of_decide_eq_true c7, of_decide_eq_true c8, of_decide_eq_true c9, c10, eqO_ok c11, ⟨_, eqO_ok c12, of_decide_eq_true c13, ?_⟩, bd, top⟩
  unfold iniB at c14
  unfold fnXo at e
  cases q : K.lookup (ma K (ga K d.x) "__init__") with
  | none =>
    rw [q] at c14
    cases c14
  | some o =>
    obtain ⟨oc, od, dt, osl⟩ := o
    rw [q] at c14 e
    cases dt with
    | func fd =>
      obtain ⟨n1, n2, n3, n4, n5, n6, n7, n8, n9, n10, n11, n12, n13, n14, n15⟩ := fd
      have e2 : (some (n1, n2, n3, n4, n5, n6, n7.map (·.1), n8, n15) : FnX) = some (("__init__" : Str), d.qual, defArgs d.st, FuncBody.stmts (defBody d.st), defScope d.st, mainGlobals, [("__class__" : Str)], Value.none, builtinsNs) := e
      simp only [Option.some.injEq, Prod.mk.injEq] at e2
      obtain ⟨h1, h2, h3, h4, h5, h6, h7, h8, h9⟩ := e2
      subst h1 h2 h3 h4 h5 h6 h8 h9
      dsimp only at c14
      cases n7 with
      | nil => cases h7
      | cons a n7 =>
        cases n7 with
        | cons b n7 =>
          have z := congrArg List.length h7
          simp at z
        | nil =>
          obtain ⟨nm, cc⟩ := a
          have h7' : nm = ("__class__" : Str) := by
            have z := List.cons.inj h7
            exact z.1
          subst h7'
          cases n13 with
          | ref cda =>
            dsimp only at c14
            obtain ⟨d1, d2⟩ := ba c14
            obtain ⟨d3, d4⟩ := ba d2
            split at d3
            · rename_i ccl cdd vs ccs hl
              split at d3
              · rename_i n tf hvs
                have en : n = (P.main.file : Str) := of_decide_eq_true d3
                subst en
                split at d4
                · rename_i cl cld D csl hcell
                  have eD : D = ga K d.x := of_decide_eq_true d4
                  subst eD
                  refine ⟨d.qual, m, oc, od, n9, n10, n11, n12, cda, cc, n14, osl, p1, p2, q1, q2, q3, q4, q5, q6, q7, q8, q9, q10, ccl, cdd, vs, ccs, tf, cl, cld, csl, ?_, d1, hl, hvs, hcell, hp⟩
                  rw [hA, hB, hS]
                · cases d4
              · cases d3
            · cases d3
          | _ => cases c14
    | _ => cases c14
/-! ### the Hook -/
abbrev AlX : Type := Bool × List FnW × List FnX
def obsX (file : Str) (fa : List Fct) (fn : List DefD) (fi : List InD) (K : PySem.W.Frag) : AlX := (((fa.all fun f => f K) && (fn.all fun d => d.ok K)) && (fi.all fun d => d.ok file K), fn.map (fun d => fnW K d.at_), fi.map fun d => fnXo K d.x)
def valX (fn : List DefD) (fi : List InD) : AlX := (true, fn.map DefD.val, fi.map InD.val)
def SaysX (file : Str) (fa : List Fct) (fn : List DefD) (fi : List InD) (K : PySem.W.Frag) : Prop := obsX file fa fn fi K = valX fn fi
def obsXG (n : Nat) (file : Str) (fa : List Fct) (fn : List DefD) (fi : List InD) (g : Addr → Option Obj) : AlX := obsX file fa fn fi (frG g (asR g n))
def hookX (n : Nat) (file : Str) (fa : List Fct) (fn : List DefD) (fi : List InD) : PySem.W.Hook where
  α := AlX
  obs := fun s => obsXG n file fa fn fi s.heap.get?
  val := fun _ => valX fn fi
  says := fun _ h => ∃ K : PySem.W.Frag, K.In h ∧ SaysX file fa fn fi K
  of := fun _ _ e => ⟨_, frG_in, e⟩
  keeps := fun _ _ _ ⟨K, hK, c⟩ k => ⟨K, PySem.W.Frag.In.keeps hK k, c⟩
theorem obsXG_eq {n : Nat} {file : Str} {fa : List Fct} {fn : List DefD} {fi : List InD} {g : Addr → Option Obj} {s : Shared} (h : ∀ a, g a = s.heap.get? a) : obsXG n file fa fn fi g = (hookX n file fa fn fi).obs s := by
  have e : g = s.heap.get? := funext h
  rw [e] <;> rfl
section
variable {file : Str} {fa : List Fct} {fn : List DefD} {fi : List InD} {K : PySem.W.Frag}
theorem SaysX.fact (c : SaysX file fa fn fi K) (i : Nat) {f : Fct} (h : fa[i]? = some f := by rfl) : f K = true := by
  have c1 := (ba (ba (show (((fa.all fun f => f K) && (fn.all fun d => d.ok K)) && (fi.all fun d => d.ok file K)) = true from congrArg (fun z : AlX => z.1) c)).1).1
  exact List.all_eq_true.mp c1 f (List.mem_of_getElem? h)
theorem SaysX.def_ (c : SaysX file fa fn fi K) (i : Nat) {d : DefD} (h : fn[i]? = some d := by rfl) : ∃ fd, FunD K d.name d.qual d.params d.body d.scope (d.dvs K) (d.kws K) (fAd K d.at_) fd := by
  have c2 := (ba (ba (show (((fa.all fun f => f K) && (fn.all fun d => d.ok K)) && (fi.all fun d => d.ok file K)) = true from congrArg (fun z : AlX => z.1) c)).1).2
  have e : fn.map (fun d => fnW K d.at_) = fn.map DefD.val := congrArg (fun z : AlX => z.2.1) c
  have e2 : (fn.map fun d => fnW K d.at_)[i]? = (fn.map DefD.val)[i]? := by rw [e]
  rw [List.getElem?_map, List.getElem?_map, h] at e2
  exact DefD.funD (Option.some.inj e2) (List.all_eq_true.mp c2 d (List.mem_of_getElem? h))
theorem SaysX.ini (c : SaysX file fa fn fi K) (i : Nat) {d : InD} (h : fi[i]? = some d := by rfl) : fnXo K d.x = d.val ∧ d.ok file K = true := by
  have c2 := (ba (show (((fa.all fun f => f K) && (fn.all fun d => d.ok K)) && (fi.all fun d => d.ok file K)) = true from congrArg (fun z : AlX => z.1) c)).2
  have e : fi.map (fun d => fnXo K d.x) = fi.map InD.val := congrArg (fun z : AlX => z.2.2) c
  have e2 : (fi.map fun d => fnXo K d.x)[i]? = (fi.map InD.val)[i]? := by rw [e]
  rw [List.getElem?_map, List.getElem?_map, h] at e2
  exact ⟨Option.some.inj e2, List.all_eq_true.mp c2 d (List.mem_of_getElem? h)⟩
end
end FxH
/-! Short words over the layer: a def by its name (Src), a def that keeps its promise (Cal), constants (Cst) -/
namespace Fx
open PySem PySem.Spec PyProof.Rows L2
/-- a def of the text as it stands behind the top -/
def Src (K : PySem.W.Frag) (mg : Str → Option Value) (x : Str) (st : Stmt) : Prop := ∃ f fd, mg x = some (.ref f) ∧ FunD K x x (defArgs st) (defBody st) (defScope st) [] [] f fd
/-- a def that keeps its promise -/
structure Cal (P : Program) (w : World) (K : PySem.W.Frag) (mg : Str → Option Value) (base : Heap) (CX : CXT) (k : Nat) (x : Str) (ps : List Str) (sp : Sp) : Prop where
  ex : ∃ f fd, mg x = some (.ref f) ∧ PySem.W.keepIn K (.ref f) = true ∧ Binds K fd ps [] ∧ FnOk P w K mg base CX k f fd ps sp
/-- a constant of the module -/
def Cst (mg : Str → Option Value) (x : Str) (v : V) : Prop := ∃ u, mg x = some u ∧ RelV v u
section
variable {P : Program} {w : World} {K : PySem.W.Frag} {mg : Str → Option Value} {base : Heap} {x : Str} {st : Stmt} {N ps : List Str} {k : Nat} {sp : Sp}
abbrev BindP (x : Str) (st : Stmt) (ps : List Str) : Prop := ∀ (kV doc pm : Value) (an : Option Addr) (cdv ct : Value) (us : List Value), us.length = ps.length → bindArgs (PySem.W.fnOf x x (defArgs st) (defBody st) (defScope st) .none kV doc pm an cdv ct) ⟨us, []⟩ = pure (ps.zip us)
/-- a def that lets nothing out -/
theorem Src.cal (S : Src K mg x st) (sc : FnScope N ps (defScope st)) (bn : BindP x st ps) (len : ∀ vs H Q E, sp vs H Q E → vs.length = ps.length)
    (hbody : ∀ (f : Addr) (cdv : Value) (A : Around) (outer : List Env) (s : Shared) (H : Hp) (vs : List V) (Q : VK) (E : XK), Room k (A.deeper (envOfC x (defScope st) s.heap.objs.size f cdv)) → sp vs H Q E →
      ∃ t, PSs (cxOf CX0 P w K mg base N x (defScope st) f cdv A outer s H E).nox (defBody st) t ∧ t { nx := fun _ H' => Q .non H', rt := Q } (start N vs) H) : Cal P w K mg base CX0 (k + 1) x ps sp := by
  obtain ⟨f, fd, g, F⟩ := S
  refine ⟨f, fd, g, F.kp, F.bindsN bn, F.ok sc len fun cdv A outer s H vs Q E hr hsp => ?_⟩
  obtain ⟨t, h, q⟩ := hbody f cdv A outer s H vs Q E hr hsp
  exact ⟨t, h.nox, q⟩
/-- a def that may raise -/
theorem Src.calX (S : Src K mg x st) (sc : FnScope N ps (defScope st)) (bn : BindP x st ps) (len : ∀ vs H Q E, sp vs H Q E → vs.length = ps.length)
    (hbody : ∀ (f : Addr) (cdv : Value) (A : Around) (outer : List Env) (s : Shared) (H : Hp) (vs : List V) (Q : VK) (E : XK), Room k (A.deeper (envOfC x (defScope st) s.heap.objs.size f cdv)) → sp vs H Q E →
      ∃ t, PSs (cxOf (L2.CX P w) P w K mg base N x (defScope st) f cdv A outer s H E) (defBody st) t ∧ t { nx := fun _ H' => Q .non H', rt := Q } (start N vs) H) : Cal P w K mg base (L2.CX P w) (k + 1) x ps sp := by
  obtain ⟨f, fd, g, F⟩ := S
  exact ⟨f, fd, g, F.kp, F.bindsN bn, F.ok sc len fun cdv A outer s H vs Q E hr hsp => hbody f cdv A outer s H vs Q E hr hsp⟩
end
/-! ### arguments without a star -/
def nostar : Expr → Bool
  | .Starred _ _ => false
  | _ => true
theorem star_ok {e : Expr} {es : List Expr} {env : Env} (h : nostar e = true) : starEach (e :: es) env = (false, eval e env) :: starEach es env := by
  cases e <;> first | rfl | cases h
theorem back_ok {pos : Pos} {env : Env} : ∀ {es : List Expr}, es.all nostar = true → (backTo pos (starEach es env)).any (·.1) = false
  | [], _ => rfl
  | e :: es, h => by
    simp only [List.all_cons, Bool.and_eq_true] at h
    rw [star_ok h.1]
    show (false || (backTo pos (starEach es env)).any (·.1)) = false
    rw [back_ok h.2]
    rfl
theorem pa_c {X : Cx} {e : Expr} {es : List Expr} {te : TE} {t : TA} (ha : PE X e te) (hr : PA X es t) (hs : nostar e = true := by rfl) : PA X (e :: es) (tCons te t) := pa_cons ha hr (star_ok hs)
section
variable {X : Cx} {x : Str} {p pos : Pos} {e : Expr} {es : List Expr} {t : TA} {id T : String} {r : List V → Hp → VK → Prop}
theorem pe_cB (hc : CallR X (.builtin id) r) (hm : X.mg x = none) (hv : bootBuiltins x = some (.builtin id)) (ha : PA X (e :: es) t) (hg : Gl X x := by rfl) (hn : x ≠ "__name__" := by decide) (hdb : (x == ("__debug__" : Str)) = false := by decide)
    (hs : (e :: es).all nostar = true := by rfl) : PE X (.Call (.Name x p) (e :: es) [] pos) (tCB r t) := by
  simp only [List.all_cons, Bool.and_eq_true] at hs
  exact pe_callB hc hg hm hv ha hn hdb (star_ok hs.1) (back_ok hs.2)
theorem pe_cTy (hc : CallR X (.type T) r) (hm : X.mg x = none) (hv : bootBuiltins x = some (.type T)) (ha : PA X (e :: es) t) (hg : Gl X x := by rfl) (hn : x ≠ "__name__" := by decide) (hdb : (x == ("__debug__" : Str)) = false := by decide)
    (hs : (e :: es).all nostar = true := by rfl) : PE X (.Call (.Name x p) (e :: es) [] pos) (tCB r t) := by
  simp only [List.all_cons, Bool.and_eq_true] at hs
  exact pe_callTy hc hg hm hv ha hn hdb (star_ok hs.1) (back_ok hs.2)
end
section
variable {X : Cx} {x : Str} {ps : List Str} {sp : Sp} {k : Nat} {CX : CXT} {E : XK} {e : Expr} {es : List Expr} {t : TA} {p pos : Pos}
/-- f(e, ..) -/
theorem pe_cal (C : Cal X.prog X.w X.K X.mg X.base CX k x ps sp) (hr : Room k X.A) (hx : Passes CX X E) (ha : PA X (e :: es) t) (hg : Gl X x := by rfl) (hdb : (x == ("__debug__" : Str)) = false := by decide)
    (hs : (e :: es).all nostar = true := by rfl) : PE X (.Call (.Name x p) (e :: es) [] pos) (tCall sp [] E t) := by
  obtain ⟨f, fd, g, kp, b, F⟩ := C.ex
  simp only [List.all_cons, Bool.and_eq_true] at hs
  exact pe_call F hr hg g kp b .nil hx ha hdb (star_ok hs.1) (back_ok hs.2)
theorem pe_cal0 (C : Cal X.prog X.w X.K X.mg X.base CX k x ps sp) (hr : Room k X.A) (hx : Passes CX X E) (hg : Gl X x := by rfl) (hdb : (x == ("__debug__" : Str)) = false := by decide) : PE X (.Call (.Name x p) [] [] pos) (tCall sp [] E tNil) := by
  obtain ⟨f, fd, g, kp, b, F⟩ := C.ex
  exact pe_call0 F hr hg g kp b .nil hx hdb
/-- f(e, ..) of a def that may raise, in a try's body -/
theorem pe_calS {W : WX} (C : Cal X.prog X.w X.K X.mg X.base (L2.CX X.prog X.w) k x ps sp) (hr : Room k X.A) (tk : Takes X W) (ha : PA X (e :: es) t) (hg : Gl X x := by rfl) (hdb : (x == ("__debug__" : Str)) = false := by decide)
    (hs : (e :: es).all nostar = true := by rfl) : PE X (.Call (.Name x p) (e :: es) [] pos) (tCallS sp (WE W) t) := by
  obtain ⟨f, fd, g, kp, b, F⟩ := C.ex
  simp only [List.all_cons, Bool.and_eq_true] at hs
  exact pe_callS F hr hg g kp b (fun σ => passAt tk σ) ha hdb (star_ok hs.1) (back_ok hs.2)
theorem pe_cst {v : V} (h : Cst X.mg x v) (hg : Gl X x := by rfl) (hdb : (x == ("__debug__" : Str)) = false := by decide) : PE X (.Name x p) (tC v) := by
  obtain ⟨u, hm, r⟩ := h
  exact pe_glob hg hm r hdb
end
end Fx
/-! The law's bag of numbers -/
namespace Fx
open PySem PySem.Spec PyProof.Rows L2
def bagKV (c : Addr) (a r m n : Int) : List (Key × V) := [(.inr "cells", .ref c), (.inr "at", .int a), (.inr "rest", .int r), (.inr "mixed", .int m), (.inr "count", .int n)]
section
variable {c : Addr} {a r m n : Int} {v : Int}
theorem bag_cells : valV (bagKV c a r m n) (.inr "cells") = some (.ref c) := rfl
theorem bag_at : valV (bagKV c a r m n) (.inr "at") = some (.int a) := rfl
theorem bag_rest : valV (bagKV c a r m n) (.inr "rest") = some (.int r) := rfl
theorem bag_mixed : valV (bagKV c a r m n) (.inr "mixed") = some (.int m) := rfl
theorem bag_count : valV (bagKV c a r m n) (.inr "count") = some (.int n) := rfl
theorem bag_atP : putK (bagKV c a r m n) (.inr "at") (.int v) = bagKV c v r m n := rfl
theorem bag_restP : putK (bagKV c a r m n) (.inr "rest") (.int v) = bagKV c a v m n := rfl
theorem bag_mixedP : putK (bagKV c a r m n) (.inr "mixed") (.int v) = bagKV c a r v n := rfl
theorem bag_countP : putK (bagKV c a r m n) (.inr "count") (.int v) = bagKV c a r m v := rfl
end
/-- the bag at b, its numbers at c -/
def BagC (H : Hp) (b c : Addr) : Prop := ∃ (ns : List Int) (a r m n : Int), H b = some (.dK (bagKV c a r m n)) ∧ H c = some (.lst (ns.map V.int)) ∧ 0 ≤ a
def Bag (H : Hp) (b : Addr) : Prop := ∃ c : Addr, BagC H b c
/-- all that was tracked but the bag is as it was; the bag is a bag -/
structure Kp (b : Addr) (H H' : Hp) : Prop where
  keep : ∀ a o, a ≠ b → H a = some o → H' a = some o
  bag : Bag H' b
  cel : ∀ c, BagC H b c → BagC H' b c
section
variable {b c D : Addr} {H H1 H2 : Hp}
theorem Bag.some (B : Bag H b) : ∃ kvs, H b = some (.dK kvs) := by
  obtain ⟨c, ns, a, r, m, n, h, _⟩ := B
  exact ⟨_, h⟩
theorem BagC.same (B : BagC H b c) (s : Same H H1) : BagC H1 b c := by
  obtain ⟨ns, a, r, m, n, h1, h2, h3⟩ := B
  exact ⟨ns, a, r, m, n, s _ _ h1, s _ _ h2, h3⟩
theorem Kp.refl (B : Bag H b) : Kp b H H := ⟨fun _ _ _ h => h, B, fun _ h => h⟩
theorem Kp.trans (x : Kp b H H1) (y : Kp b H1 H2) : Kp b H H2 := ⟨fun a o n h => y.keep a o n (x.keep a o n h), y.bag, fun c h => y.cel c (x.cel c h)⟩
theorem Bag.same (B : Bag H b) (s : Same H H1) : Bag H1 b := by
  obtain ⟨c, h⟩ := B
  exact ⟨c, h.same s⟩
theorem Kp.same (B : Bag H b) (s : Same H H1) : Kp b H H1 := ⟨fun a o _ h => s a o h, B.same s, fun c h => h.same s⟩
theorem Kp.then (x : Kp b H H1) (s : Same H1 H2) : Kp b H H2 := x.trans (Kp.same x.bag s)
theorem BagC.put {o : HO} (B : BagC H b c) (hb : b ≠ D) (hc : c ≠ D) : BagC (upd H D o) b c := by
  obtain ⟨ns, a, r, m, n, h1, h2, h3⟩ := B
  exact ⟨ns, a, r, m, n, by rw [upd_ne hb]; exact h1, by rw [upd_ne hc]; exact h2, h3⟩
/-- what was made since then may be changed -/
theorem Kp.put {o : HO} (B : Bag H b) (x : Kp b H H1) (hD : H D = Option.none) : Kp b H (upd H1 D o) := by
  have g : ∀ c, BagC H b c → BagC (upd H1 D o) b c := by
    intro c Bc
    have B1 := x.cel c Bc
    obtain ⟨ns, a, r, m, n, h1, h2, h3⟩ := Bc
    exact B1.put (ne_of_none h1 hD) (ne_of_none h2 hD)
  obtain ⟨c, Bc⟩ := B
  exact ⟨fun a o' n h => by rw [upd_ne (ne_of_none h hD)]; exact x.keep a o' n h, ⟨c, g c Bc⟩, g⟩
theorem Kp.none_ne (x : Kp b H H1) (B : Bag H b) (hD : H D = Option.none) : D ≠ b := fun e => by
  obtain ⟨kvs, h⟩ := B.some
  rw [← e, hD] at h
  cases h
theorem Bag.lst (B : Bag H b) {a : Addr} {xs : List V} (h : H a = Option.some (.lst xs)) : a ≠ b := by
  obtain ⟨c, ns, x, r, m, n, h1, _⟩ := B
  exact ne_of h h1 (by intro z; cases z)
theorem Bag.tup (B : Bag H b) {a : Addr} {xs : List V} (h : H a = Option.some (.tup xs)) : a ≠ b := by
  obtain ⟨c, ns, x, r, m, n, h1, _⟩ := B
  exact ne_of h h1 (by intro z; cases z)
theorem Kp.lst (x : Kp b H H1) (B : Bag H b) {a : Addr} {xs : List V} (h : H a = Option.some (.lst xs)) : H1 a = Option.some (.lst xs) := x.keep _ _ (B.lst h) h
theorem Kp.tup (x : Kp b H H1) (B : Bag H b) {a : Addr} {xs : List V} (h : H a = Option.some (.tup xs)) : H1 a = Option.some (.tup xs) := x.keep _ _ (B.tup h) h
theorem Kp.free (x : Kp b H H1) {p : Addr} (h : H1 p = Option.none) : H p = Option.none := by
  cases q : H p with
  | none => rfl
  | some o =>
    by_cases e : p = b
    · obtain ⟨kvs, hb⟩ := x.bag.some
      rw [e, hb] at h
      cases h
    · rw [x.keep p o e q] at h
      cases h
theorem same_new {H : Hp} {p : Addr} {o : HO} (h : H p = Option.none) : Same H (upd H p o) := fun b x e => by
  rw [upd_ne (ne_of_none e h)]
  exact e
end
/-- _law_pick(bag, many) -/
def spPick : Sp := fun vs H Q _ => ∃ (b : Addr) (many : Int), vs = [.ref b, .int many] ∧ Bag H b ∧ 0 < many ∧ many < 1073741824 ∧ ∀ (n : Int) (H' : Hp), 0 ≤ n → n < many → Kp b H H' → Q (.int n) H'
/-- _law_bag(script) -/
def spBag (K : PySem.W.Frag) : Sp := fun vs H Q _ => ∃ (a : Addr) (ns : List Int), vs = [.ref a] ∧ SqL K H a (ns.map V.int) ∧ ns.length ≤ 1000 ∧ ∀ (b : Addr) (H' : Hp), Same H H' → H b = none → Bag H' b → Q (.ref b) H'
end Fx
/-! Readings evaluated by simp -/
namespace Fx
open PySem PySem.Spec PyProof.Rows L2
section
variable {H H' : Hp} {a b p : Addr} {z : Str} {i : Int} {r : Option V} {v : V} {kvs : List (Key × V)} {o u : HO}
theorem dget_s (hb : H b = some (.dK kvs)) : DGet H b (.str z) r ↔ r = valV kvs (.inr z) := by
  constructor
  · rintro (⟨kvs', k, hr, e, rfl⟩ | ⟨kvs', k, b', hr, e, _⟩)
    · rcases hr with hr | ⟨o, hr⟩
      · rw [hb] at hr
        cases hr
        cases k with
        | inl i => cases e
        | inr y => cases e; rfl
      · rw [hb] at hr
        cases hr
    · cases e
  · rintro rfl
    exact DGet.k (k := Sum.inr z) hb
theorem dget_i (hb : H b = some (.dK kvs)) : DGet H b (.int i) r ↔ r = valV kvs (.inl i) := by
  constructor
  · rintro (⟨kvs', k, hr, e, rfl⟩ | ⟨kvs', k, b', hr, e, _⟩)
    · rcases hr with hr | ⟨o, hr⟩
      · rw [hb] at hr
        cases hr
        cases k with
        | inl i => cases e; rfl
        | inr y => cases e
      · rw [hb] at hr
        cases hr
    · cases e
  · rintro rfl
    exact DGet.k (k := Sum.inl i) hb
theorem dput_s (hb : H b = some (.dK kvs)) (hl : kvs.length < 1000) : DPut H b (.str z) v H' ↔ H' = upd H b (.dK (putK kvs (.inr z) v)) := by
  constructor
  · rintro (⟨kvs', k, hr, e, _, rfl⟩ | ⟨kvs', k, b', hr, e, _⟩)
    · rw [hb] at hr
      cases hr
      cases k with
      | inl i => cases e
      | inr y => cases e; rfl
    · cases e
  · rintro rfl
    exact DPut.k (k := Sum.inr z) hb (Nat.lt_of_lt_of_le hl (by decide))
theorem dget_su : DGet (upd H b (.dK kvs)) b (.str z) r ↔ r = valV kvs (.inr z) := dget_s upd_same
theorem dput_su (hl : kvs.length < 1000) : DPut (upd H b (.dK kvs)) b (.str z) v H' ↔ H' = upd H b (.dK (putK kvs (.inr z) v)) := by
  rw [dput_s upd_same hl, upd_upd]
theorem bag_len {c : Addr} {a r m n : Int} : (bagKV c a r m n).length < 1000 := show 5 < 1000 by decide
theorem ite_dec {p : Prop} [Decidable p] {A B : Prop} : (if decide p = true then A else B) ↔ (if p then A else B) := by simp
theorem ite_ndec {p : Prop} [Decidable p] {A B : Prop} : (if (!decide p) = true then A else B) ↔ (if p then B else A) := by
  by_cases h : p <;> simp [h]
end
end Fx
namespace Fx
open PySem PySem.Spec PyProof.Rows L2
/-- one statement first; the rest stays folded -/
theorem seqI {t u : TS} {D : Ends} {σ : L2.St} {H : Hp} (h : ∀ K : L2.St → Hp → Prop, (∀ σ H, u D σ H → K σ H) → t { D with nx := K } σ H) : tSeq t u D σ H := h (u D) fun _ _ x => x
theorem ifI {tc : TT} {t u : TS} {D : Ends} {σ : L2.St} {H : Hp} (h : ∀ A B : Hp → Prop, (∀ H1, t D σ H1 → A H1) → (∀ H1, u D σ H1 → B H1) → tc σ H (fun b H1 => if b = true then A H1 else B H1)) : tIfS tc t u D σ H := h (t D σ) (u D σ) (fun _ x => x) (fun _ x => x)
theorem while_i {c : TT} {tb : TS} {D : Ends} {σ : L2.St} {H : Hp} (Pv : L2.St → Hp → Prop) (μ : L2.St → Hp → Nat) (h0 : Pv σ H)
    (hs : ∀ σ H, Pv σ H → ∀ A B : Hp → Prop, (∀ H1, tb { D with nx := fun σ' H' => Pv σ' H' ∧ μ σ' H' < μ σ H, ct := fun σ' H' => Pv σ' H' ∧ μ σ' H' < μ σ H, bk := D.nx } σ H1 → A H1) → (∀ H1, D.nx σ H1 → B H1) → c σ H fun b H1 => if b = true then A H1 else B H1) : tWhile c tb D σ H := by
  refine ⟨fun m σ H => m = μ σ H ∧ Pv σ H, ⟨_, rfl, h0⟩, ?_⟩
  rintro m σ H ⟨rfl, p⟩
  exact hs σ H p _ _ (fun H1 t => ⟨fun σ' H' => Pv σ' H' ∧ μ σ' H' < μ σ H, fun σ' H' ⟨a, b⟩ => ⟨μ σ' H', b, rfl, a⟩, t⟩) (fun H1 x => x)
theorem forI {wi : TI} {g : TG} {tb : TS} {D : Ends} {σ : L2.St} {H : Hp} (h : ∀ R : It → Hp → Prop, (∀ J H1, (∃ W : Nat → Nat → L2.St → Hp → Prop, (∃ m, W 0 m σ H1) ∧ ∀ i m σ H, W i m σ H →
    (J.stop i H ∧ D.nx σ H) ∨ (J.go i H ∧ ∃ N : L2.St → Hp → Prop, (∀ σ' H', N σ' H' → ∃ m', m' < m ∧ W (i + 1) m' σ' H') ∧ ∀ x H', J.yld i H x H' → g x σ H' fun σ2 H2 => tb { D with nx := N, ct := N, bk := D.nx } σ2 H2)) → R J H1) → wi σ H R) : tFor wi g tb D σ H := h _ fun _ _ x => x
theorem ite_i {c A B : Prop} [Decidable c] (h1 : c → A) (h2 : ¬ c → B) : if c then A else B := ite2 h1 h2
theorem sz {n : Nat} (h : n ≤ 100000) : n ≤ sizeLine := Nat.le_trans h (by decide)
end Fx
namespace Fx
open PySem PySem.Spec PyProof.Rows L2
theorem cx_K {CX : CXT} {P : Program} {w : World} {K : PySem.W.Frag} {mg : Str → Option Value} {base : Heap} {N : List Str} {qual : Str} {scope : Scope} {f : Addr} {cd : Value} {A : Around} {outer : List Env} {s : Shared} {H : Hp} {E : XK} :
    (cxOf CX P w K mg base N qual scope f cd A outer s H E).K = K := rfl
end Fx
/-! Rules whose readings ask the tracked heap alone -/
namespace Fx
open PySem PySem.Spec PyProof.Rows L2
section
variable {X : Cx}
theorem IxR.imp {r r' : R2} (h : IxR X r) (i : ∀ x y H Q, r' x y H Q → r x y H Q) : IxR X r' := by
  intro value slice pins s σ H x y v u Q I rx ry q e
  exact h value slice pins s σ H x y v u Q I rx ry (i _ _ _ _ q) e
theorem CallR.imp {f : Value} {r r' : List V → Hp → VK → Prop} (h : CallR X f r) (i : ∀ xs H Q, r' xs H Q → r xs H Q) : CallR X f r' := fun pins s σ H xs us Q I rx q => h pins s σ H xs us Q I rx (i _ _ _ q)
theorem SlR.imp {r r' : V → Option Int → Option Int → Hp → VK → Prop} (h : SlR X r) (i : ∀ x lo hi H Q, r' x lo hi H Q → r x lo hi H Q) : SlR X r' := by
  intro pins s σ H x v vl vu lo hi sl Q I rx hs pl pu q
  exact h pins s σ H x v vl vu lo hi sl Q I rx hs pl pu (i _ _ _ _ _ q)
/-- xs[i], a tracked list | tuple -/
def rIxLt : R2 := fun x y H Q => ∃ p i xs, x = .ref p ∧ y = .int i ∧ H p = some (.lst xs) ∧ ∃ v, atI xs i = some v ∧ Q v H
def rIxTt : R2 := fun x y H Q => ∃ p i xs, x = .ref p ∧ y = .int i ∧ H p = some (.tup xs) ∧ ∃ v, atI xs i = some v ∧ Q v H
theorem ix_L : IxR X rIxLt := IxR.imp ix_list fun x y H Q ⟨p, i, xs, e1, e2, h, v, a, q⟩ => ⟨p, xs, i, v, e1, e2, .inl (.inl h), a, q⟩
theorem ix_T : IxR X rIxTt := IxR.imp ix_tup fun x y H Q ⟨p, i, xs, e1, e2, h, v, a, q⟩ => ⟨p, xs, i, v, e1, e2, .inl (.inl h), a, q⟩
/-- s[i] -/
def rIxSt : R2 := fun x y H Q => ∃ z i, x = .str z ∧ y = .int i ∧ z.length ≤ sizeLine ∧ ∃ c, atI z.cps.toList i = some c ∧ Q (.str ⟨#[c]⟩) H
theorem ix_S : IxR X rIxSt := IxR.imp ix_str fun x y H Q ⟨z, i, e1, e2, h, v, a, q⟩ => ⟨z, i, v, e1, e2, h, a, q⟩
/-- len(xs) -/
def rLenL : List V → Hp → VK → Prop := fun xs H Q => ∃ p ys, xs = [.ref p] ∧ H p = some (.lst ys) ∧ Q (.int ys.length) H
def rLenT : List V → Hp → VK → Prop := fun xs H Q => ∃ p ys, xs = [.ref p] ∧ H p = some (.tup ys) ∧ Q (.int ys.length) H
theorem len_L : CallR X (.builtin "len") rLenL := CallR.imp call_len_seq fun xs H Q ⟨p, ys, e, h, q⟩ => ⟨p, ys, e, .inl (.inl (.inl h)), q⟩
theorem len_T : CallR X (.builtin "len") rLenT := CallR.imp call_len_seq fun xs H Q ⟨p, ys, e, h, q⟩ => ⟨p, ys, e, .inr (.inl (.inl h)), q⟩
def rLenS : List V → Hp → VK → Prop := fun xs H Q => ∃ z, xs = [.str z] ∧ z.length ≤ sizeLine ∧ Q (.int z.length) H
theorem len_S : CallR X (.builtin "len") rLenS := call_len_str
/-- int(n) -/
def rIntI : List V → Hp → VK → Prop := fun xs H Q => ∃ i, xs = [.int i] ∧ Q (.int i) H
theorem int_I : CallR X (.type "int") rIntI := CallR.imp call_int1 fun xs H Q h => .inl h
def rOrd : List V → Hp → VK → Prop := fun xs H Q => ∃ x, xs = [.str x] ∧ x.length = 1 ∧ Q (.int (x.cps.getD 0 0 : Nat)) H
theorem ord_S : CallR X (.builtin "ord") rOrd := call_ord
/-- xs[a:b] -/
def rSlLt : V → Option Int → Option Int → Hp → VK → Prop := fun x lo hi H Q => ∃ a xs, x = .ref a ∧ H a = some (.lst xs) ∧ ∀ p, H p = none → Q (.ref p) (upd H p (.lst (cutV xs lo hi)))
theorem sl_L : SlR X rSlLt := SlR.imp sl_list fun x lo hi H Q ⟨a, xs, e, h, q⟩ => ⟨a, xs, e, .inl (.inl h), q⟩
/-- list(t), list(xs) -/
def rLstL : List V → Hp → VK → Prop := fun xs H Q => ∃ p ys, xs = [.ref p] ∧ H p = some (.lst ys) ∧ ∀ l, H l = none → Q (.ref l) (upd H l (.lst ys))
def rLstT : List V → Hp → VK → Prop := fun xs H Q => ∃ p ys, xs = [.ref p] ∧ H p = some (.tup ys) ∧ ∀ l, H l = none → Q (.ref l) (upd H l (.lst ys))
theorem list_L : CallR X (.type "list") rLstL := CallR.imp call_list_of fun xs H Q ⟨p, ys, e, h, q⟩ => ⟨p, ys, e, .inl (.inl (.inl h)), q⟩
theorem list_T : CallR X (.type "list") rLstT := CallR.imp call_list_of fun xs H Q ⟨p, ys, e, h, q⟩ => ⟨p, ys, e, .inr (.inl (.inl h)), q⟩
/-- all(xs), any(xs) of truth values -/
def rAllL : List V → Hp → VK → Prop := fun vs H Q => ∃ (a : Addr) (bs : List Bool), vs = [V.ref a] ∧ H a = some (.lst (bs.map V.bl)) ∧ Q (.bl (bs.all id)) H
def rAnyL : List V → Hp → VK → Prop := fun vs H Q => ∃ (a : Addr) (bs : List Bool), vs = [V.ref a] ∧ H a = some (.lst (bs.map V.bl)) ∧ Q (.bl (bs.any id)) H
theorem all_L (hc : X.calm = true) : CallR X (.builtin "all") rAllL := CallR.imp (cr_all hc) fun xs H Q ⟨p, ys, e, h, q⟩ => ⟨p, ys, e, .inl (.inl h), q⟩
theorem any_L (hc : X.calm = true) : CallR X (.builtin "any") rAnyL := CallR.imp (cr_any hc) fun xs H Q ⟨p, ys, e, h, q⟩ => ⟨p, ys, e, .inl (.inl h), q⟩
/-- s * n -/
def rMulS : R2 := fun x y H Q => ∃ z n, x = .str z ∧ y = .int n ∧ 0 ≤ n ∧ n ≤ 1000000 ∧ z.length * n.toNat ≤ 1000000 ∧ Q (.str (Txt.mul z n)) H
theorem mulOk_of {z : Str} {n : Int} (h0 : 0 ≤ n) (h : z.length * n.toNat ≤ 1000000) (hn : z.length ≠ 0 → n ≤ 1000000) (h63 : n < 2 ^ 63) : MulOk z n := by
  refine ⟨?_, fun h1 h2 => ?_, fun h1 h2 => ?_⟩
  · have a : ¬ n < -(2 ^ 63 : Int) := by omega
    have b : ¬ n ≥ 2 ^ 63 := by omega
    simp only [decide_eq_false a, decide_eq_false b, Bool.or_self]
  · simp only [Bool.or_eq_false_iff, beq_eq_false_iff_ne] at h2
    have hz := hn h2.2
    have hl : z.length ≤ 1000000 := Nat.le_trans (Nat.le_mul_of_pos_right _ (by omega)) h
    have : (2 ^ 63 - 1) / n ≥ 1000000 := by
      apply (Int.le_ediv_iff_mul_le (by omega)).mpr
      have : 1000000 * n ≤ 1000000 * 1000000 := Int.mul_le_mul_of_nonneg_left hz (by decide)
      omega
    omega
  · unfold Builtin.Str.tooLong
    rw [decide_eq_false_iff_not, sizeLine_eq]
    omega
theorem op_mul_str : OpR X (binaryOp .Mult) rMulS := by
  intro pins s σ H x y v u Q I rx ry h
  obtain ⟨z, n, rfl, rfl, h0, h1, hl, q⟩ := h
  obtain ⟨t, rfl⟩ := rx
  obtain ⟨t', rfl⟩ := ry
  exact SB.mul (mulOk_of h0 hl (fun _ => h1) (by omega)) fun t' k => ⟨.str (Txt.mul z n), H, I.tok _, ⟨_, rfl⟩, q⟩
end
/-! ### for i, c in enumerate(text) -/
def Ites (z : Str) : It :=
  ⟨fun i _ => i < z.cps.size, fun i H v H' => ∃ T c, v = .ref T ∧ H T = none ∧ H' = upd H T (.tup [.int (i : Nat), .str ⟨#[c]⟩]) ∧ z.cps[i]? = some c, fun i _ => z.cps.size ≤ i⟩
theorem strDraws {P : Program} {w : World} {A : Around} (hh : A.handled = none) (it : Addr) (x : Str) (t : Tok) : Draws P w A it [it] x.cps.size (fun i v => ∃ c u, x.cps[i]? = some c ∧ v = .str ⟨#[c]⟩ u) (fun i h => h.IsStrIter it (strIterType x) x t i) := by
  have e : strIterType x = "str_ascii_iterator" ∨ strIterType x = "str_iterator" := by
    unfold strIterType
    split
    · exact .inl rfl
    · exact .inr rfl
  rcases e with e | e
  · rw [e]; exact Draws.strAscii hh it x t
  · rw [e]; exact Draws.strWide hh it x t
theorem turn_enumS {P : Program} {w : World} {K : PySem.W.Frag} {elts : List Expr} {kk : Nat} {tpos : Pos} (x : Str) (t : Tok) (e it : Addr) :
    Turn P w K (.Tuple elts kk tpos) (Ites x) [e, it] e (fun i h => (∃ old, IsEnum h e it ((i : Nat) : Int) old) ∧ h.IsStrIter it (strIterType x) x t i ∧ i ≤ x.cps.size ∧ e ≠ it) where
  mem := by simp
  obj := fun i h st b hb => by
    obtain ⟨⟨old, he⟩, ⟨o, ho, hc, hd⟩, _⟩ := st
    have e' : b = e ∨ b = it := by simpa using hb
    rcases e' with z | z
    · rw [z]; exact ⟨_, he, fun v q => nomatch q⟩
    · rw [z]; exact ⟨o, ho, fun v q => by rw [hd] at q; cases q⟩
  keep := fun i h h' st k => let ⟨⟨old, he⟩, ⟨o, ho, hr⟩, hi, hne⟩ := st; ⟨⟨old, k e (by simp) _ he⟩, ⟨o, k it (by simp) o ho, hr⟩, hi, hne⟩
  item := by
    intro X hP hw hK hc i pins s σ H E I hf st hg
    subst hP hw hK
    obtain ⟨⟨old, he⟩, hit, hi, hne⟩ := st
    have hel : e < s.heap.objs.size := Heap.lt_size he
    have hil : it < s.heap.objs.size := by obtain ⟨_, q, _⟩ := hit; exact Heap.lt_size q
    have D := strDraws (P := X.prog) (w := X.w) (A := X.A.in1) (show X.A.in1.handled = none from I.ok.hd hc) it x t
    refine wpAny_pyNext_enum_itemD D he hit hg hne (by simpa using hne) fun u h' tk hu ho hit' hT hsz hk => ?_
    obtain ⟨c, tc, hcx, rfl⟩ := hu
    refine ⟨_, rfl, wpAny_letOwnedTupleGo_enum (s := { s with heap := h', toks := tk + 1 }) ho fun h'' he' sb => ?_⟩
    have hT2 : h''.get? s.heap.objs.size = some { cls := .type "tuple", data := .seq #[.int i tk, .str ⟨#[c]⟩ tc] } := (sb.2 _ (Nat.ne_of_gt hel)).trans hT
    have new : ObjOk X.prog X.w (upd H s.heap.objs.size (.tup [.int (i : Nat), .str ⟨#[c]⟩])) h'' s.heap.objs.size (.tup [.int (i : Nat), .str ⟨#[c]⟩]) :=
      ⟨by show 2 ≤ sizeLine; decide, [.int i tk, .str ⟨#[c]⟩ tc], .cons ⟨_, rfl⟩ (.cons ⟨_, rfl⟩ .nil), ⟨_, hT2, rfl, _, rfl⟩⟩
    have I1 : Inv X pins σ (upd H s.heap.objs.size (.tup [.int (i : Nat), .str ⟨#[c]⟩])) { s with heap := h'', toks := tk + 1 } :=
      I.turnedNew (ch := [e, it]) (fun b ob hb q => (sb.2 b (fun z => hb (by simp [z]))).trans (hk b ob (fun z => hb (by simp [z])) (fun z => hb (by simp [z])) q)) hf (Nat.le_refl _) new
    refine ⟨.ref s.heap.objs.size, _, I1, rfl, ⟨_, c, rfl, I.hok.fresh (Nat.le_refl _), rfl, hcx⟩, ⟨⟨.str ⟨#[c]⟩ tc, ?_⟩, ?_, hg, hne⟩, fun b hb => ?_⟩
    · have e1 : ((i + 1 : Nat) : Int) = (i : Int) + 1 := by omega
      rw [e1]; exact he'
    · obtain ⟨o, ho2, hr⟩ := hit'
      exact ⟨o, (sb.2 it (Ne.symm hne)).trans ho2, hr⟩
    · have hb' : b < s.heap.objs.size := by
        have e' : b = e ∨ b = it := by simpa using hb
        rcases e' with z | z
        · rw [z]; exact hel
        · rw [z]; exact hil
      rw [upd_ne (Nat.ne_of_lt hb')]
      exact (hf b hb).1
  done := by
    intro X hP hw hK hc i pins s σ H E I hf st hg
    subst hP hw hK
    obtain ⟨⟨old, he⟩, hit, hi, hne⟩ := st
    have ei : i = x.cps.size := Nat.le_antisymm hi hg
    subst ei
    obtain ⟨f0, f1, f2, f3, f4, f5⟩ := hf it (by simp)
    have D := strDraws (P := X.prog) (w := X.w) (A := X.A.in1) (show X.A.in1.handled = none from I.ok.hd hc) it x t
    exact wpAny_pyNext_enum_endD D he hit fun h' eb => ⟨rfl, I.turned (t' := s.toks) (fun b o hb q => eb b o hb q) f0 f1 f3 f4 f5⟩
  self := fun A i s Q E st h => let ⟨⟨_, he⟩, _⟩ := st; wpAny_pyIter_enum he h
def iEnumS (ta : TA) : TI := fun σ H R => ta σ H fun vs H1 => ∃ z, vs = [.str z] ∧ R (Ites z) H1
theorem pi_enumS {X : Cx} {e : Expr} {ta : TA} {p pos tpos : Pos} {elts : List Expr} {kk : Nat} (hg : Gl X "enumerate") (hm : X.mg "enumerate" = none) (ha : PA X [e] ta) (hs : starEach [e] X.env = [(false, eval e X.env)] := by rfl) :
    PI X (.Tuple elts kk tpos) (.Call (.Name "enumerate" p) [e] [] pos) (iEnumS ta) := by
  refine ⟨fun pins s σ H R I h => ?_⟩
  refine Call_ (ld_blt I hg hm boot_enumerate (PyProof.Rows.callWith_type1 (thn (ha.run pos pins s σ H _ I h) fun us s1 ⟨vs, H1, I1, r1, q1⟩ => ?_) hs rfl))
  obtain ⟨z, ex, q⟩ := q1
  subst ex
  cases r1 with
  | cons r rr =>
    cases rr
    obtain ⟨t, rfl⟩ := r
    refine call_enumerate_str fun h' he hit hsz hk => wpAny_pyIter_enum he ?_
    have I2 : Inv X pins σ H1 { s1 with heap := h' } := I1.kept (t' := s1.toks) hk
    refine ⟨s1.heap.objs.size + 1, [s1.heap.objs.size + 1, s1.heap.objs.size], _, _, H1, rfl, I2, turn_enumS z t (s1.heap.objs.size + 1) s1.heap.objs.size, ⟨⟨.none, he⟩, hit, Nat.zero_le _, Nat.succ_ne_self _⟩, fun b hb => ?_, q⟩
    have e' : b = s1.heap.objs.size + 1 ∨ b = s1.heap.objs.size := by simpa using hb
    have hle : s1.heap.objs.size ≤ b := by
      rcases e' with z | z
      · rw [z]; exact Nat.le_add_right _ _
      · rw [z]; exact Nat.le_refl _
    exact I1.fpOk hle (I1.hok.fresh hle)
/-- the loop over enumerate(text), by an invariant -/
theorem for_enumS {z : Str} {g : TG} {tb : TS} {D : Ends} {σ : L2.St} {H1 : Hp} (Pv : Nat → L2.St → Hp → Prop) (h0 : Pv 0 σ H1)
    (hs : ∀ i c T σ H, z.cps[i]? = some c → Pv i σ H → H T = none → g (.ref T) σ (upd H T (.tup [.int (i : Nat), .str ⟨#[c]⟩])) fun σ' H' => tb { nx := fun σ H => Pv (i + 1) σ H, rt := D.rt, bk := D.nx, ct := fun σ H => Pv (i + 1) σ H } σ' H')
    (hd : ∀ σ H, Pv z.cps.size σ H → D.nx σ H) : ∃ W : Nat → Nat → L2.St → Hp → Prop, (∃ m, W 0 m σ H1) ∧ ∀ i m σ H, W i m σ H →
      ((Ites z).stop i H ∧ D.nx σ H) ∨ ((Ites z).go i H ∧ ∃ N : L2.St → Hp → Prop, (∀ σ' H', N σ' H' → ∃ m', m' < m ∧ W (i + 1) m' σ' H') ∧ ∀ x H', (Ites z).yld i H x H' → g x σ H' fun σ2 H2 => tb { nx := N, rt := D.rt, bk := D.nx, ct := N } σ2 H2) := by
  refine ⟨fun i m σ H => m = z.cps.size - i ∧ i ≤ z.cps.size ∧ Pv i σ H, ⟨_, rfl, Nat.zero_le _, h0⟩, ?_⟩
  rintro i m σ H ⟨rfl, hi, p⟩
  by_cases hlt : i < z.cps.size
  · refine .inr ⟨hlt, fun σ' H' => Pv (i + 1) σ' H', fun σ' H' q => ⟨z.cps.size - (i + 1), by omega, rfl, hlt, q⟩, fun x H' hy => ?_⟩
    obtain ⟨T, c, rfl, nT, rfl, hc⟩ := hy
    exact hs i c T σ H hc p nT
  · have ei : i = z.cps.size := by omega
    subst ei
    exact .inl ⟨Nat.le_refl _, hd σ H p⟩
end Fx
/-! == of flat lists; isinstance of built-in classes -/
namespace Fx
open PySem PySem.Spec PyProof.Rows L2
/-- None, an int, a text: two of these are equal in Python just if they are the same -/
def isF : V → Bool
  | .non => true
  | .int _ => true
  | .str x => PyData.strOk x
  | _ => false
def datV : V → PyData
  | .non => .none
  | .int i => .int i
  | .str x => .str x
  | _ => .none
theorem eqv_dat {x y : V} (hx : isF x = true) (hy : isF y = true) : PyData.eqv (datV x) (datV y) = decide (x = y) := by
  cases x <;> cases y <;> first | (exfalso; revert hx; simp [isF]; done) | (exfalso; revert hy; simp [isF]; done) | (simp [datV, PyData.eqv]; done) | (simp only [datV, PyData.eqv, V.int.injEq, V.str.injEq]; exact Bool.eq_iff_iff.mpr (by simp)) 
theorem eqvAll_dat : ∀ {xs ys : List V}, xs.all isF = true → ys.all isF = true → PyData.eqvAll (xs.map datV) (ys.map datV) = decide (xs = ys)
  | [], [], _, _ => by simp [PyData.eqvAll]
  | [], _ :: _, _, _ => by simp [PyData.eqvAll]
  | _ :: _, [], _, _ => by simp [PyData.eqvAll]
  | x :: xs, y :: ys, hx, hy => by
    simp only [List.all_cons, Bool.and_eq_true] at hx hy
    simp only [List.map_cons, PyData.eqvAll, eqv_dat hx.1 hy.1, eqvAll_dat hx.2 hy.2]
    by_cases e : x = y <;> simp [e]
theorem dp_dat {K : PySem.W.Frag} {H : Hp} {x : V} (hx : isF x = true) : Dp K H x (datV x) := by
  cases x <;> first | (exfalso; revert hx; simp [isF]; done) | exact .non | exact .int _ | exact .str _
theorem dpAll_dat {K : PySem.W.Frag} {H : Hp} : ∀ {xs : List V}, xs.all isF = true → DpAll K H xs (xs.map datV)
  | [], _ => .nil
  | x :: xs, hx => by
    simp only [List.all_cons, Bool.and_eq_true] at hx
    exact .cons (dp_dat hx.1) (dpAll_dat hx.2)
theorem lay_flat : ∀ {xs : List V}, xs.all isF = true → PyData.canLayAll0 (xs.map datV) = true ∧ PyData.depthAll (xs.map datV) = 0
  | [], _ => by simp [PyData.canLayAll0, PyData.depthAll]
  | x :: xs, hx => by
    simp only [List.all_cons, Bool.and_eq_true] at hx
    obtain ⟨h1, h2⟩ := lay_flat hx.2
    have h3 : PyData.canLay0 (datV x) = true ∧ PyData.depth (datV x) = 0 := by
      have hx1 := hx.1
      cases x <;> first | (exfalso; revert hx1; simp [isF]; done) | exact ⟨by simpa [datV, PyData.canLay0, isF] using hx1, by simp [datV, PyData.depth]⟩
    simp [PyData.canLayAll0, PyData.depthAll, h1, h2, h3.1, h3.2]
theorem shaped_flat {xs : List V} (hx : xs.all isF = true) : SeqAt.shaped (.list (xs.map datV)) = true := by
  obtain ⟨h1, h2⟩ := lay_flat hx
  simp [SeqAt.shaped, PyData.canLay0, PyData.depth, h1, h2]
def rEqL : R2 := fun x y H Q => ∃ p q xs ys, x = .ref p ∧ y = .ref q ∧ H p = some (.lst xs) ∧ H q = some (.lst ys) ∧ xs.all isF = true ∧ ys.all isF = true ∧ Q (.bl (decide (xs = ys))) H
theorem eq_LL {X : Cx} (hu : X.A.units + 64 < cLine) : OpR X (compareOp .Eq) rEqL := by
  intro pins s σ H x y v u Q I rx ry h
  obtain ⟨p, q, xs, ys, rfl, rfl, hp, hq, fx, fy, k⟩ := h
  refine op_eqD hu pins s σ H _ _ v u Q I rx ry ⟨.list (xs.map datV), .list (ys.map datV), .lst (.inl (.inl hp)) (dpAll_dat fx), .lst (.inl (.inl hq)) (dpAll_dat fy), shaped_flat fx, shaped_flat fy, ?_⟩
  rw [PyData.eqv, eqvAll_dat fx fy]
  exact k
/-- what built-in type a value is of -/
def tyv (H : Hp) : V → Option String
  | .non => some "NoneType"
  | .bl _ => some "bool"
  | .int _ => some "int"
  | .str _ => some "str"
  | .byt _ => some "bytes"
  | .ref a => (match H a with
    | some (.lst _) => some "list"
    | some (.tup _) => some "tuple"
    | some (.dK _) => some "dict"
    | some (.dT _) => some "dict"
    | _ => none)
  | _ => none
theorem tyv_ok {K : PySem.W.Frag} {H : Hp} {x : V} {t : String} (h : tyv H x = some t) : TyX K H x (.type t) := by
  cases x with
  | non => cases h; exact .base .non
  | bl b => cases h; exact .base (.bl b)
  | int i => cases h; exact .base (.int i)
  | str z => cases h; exact .base (.str z)
  | byt b => cases h; exact .byt b
  | flt b => cases h
  | ty n => cases h
  | ref a =>
    simp only [tyv] at h
    cases e : H a with
    | none => simp only [e] at h; cases h
    | some o =>
      simp only [e] at h
      cases o <;> first | (cases h; done) | (cases h; exact .base (.lst e)) | (cases h; exact .base (.tup e)) | (cases h; exact .base (.dK e)) | (cases h; exact .base (.dT e))
section
variable {H : Hp} {a : Addr} {xs : List V} {kvs : List (Key × V)}
theorem tyv_non : tyv H .non = some "NoneType" := rfl
theorem tyv_bl {b : Bool} : tyv H (.bl b) = some "bool" := rfl
theorem tyv_int {i : Int} : tyv H (.int i) = some "int" := rfl
theorem tyv_str {z : Str} : tyv H (.str z) = some "str" := rfl
theorem tyv_lst (h : H a = some (.lst xs)) : tyv H (.ref a) = some "list" := by simp only [tyv, h]
theorem tyv_tup (h : H a = some (.tup xs)) : tyv H (.ref a) = some "tuple" := by simp only [tyv, h]
theorem tyv_dK (h : H a = some (.dK kvs)) : tyv H (.ref a) = some "dict" := by simp only [tyv, h]
end
def rIsB : List V → Hp → VK → Prop := fun xs H Q => ∃ x n, xs = [x, .ty n] ∧ ∃ t, tyv H x = some t ∧ ∃ b, kitB t n = some b ∧ Q (.bl b) H
theorem is_B {X : Cx} : CallR X (.builtin "isinstance") rIsB := CallR.imp call_isi fun xs H Q ⟨x, n, e, t, ht, b, hb, q⟩ => ⟨x, .ty n, .type t, .type n, b, e, .ty n, tyv_ok ht, kit_ty hb, q⟩
theorem kb_int_int : kitB "int" "int" = some true := by decide +kernel
theorem kb_int_bool : kitB "int" "bool" = some false := by decide +kernel
theorem kb_bool_int : kitB "bool" "int" = some true := by decide +kernel
theorem kb_bool_bool : kitB "bool" "bool" = some true := by decide +kernel
theorem kb_str_str : kitB "str" "str" = some true := by decide +kernel
theorem kb_int_str : kitB "int" "str" = some false := by decide +kernel
theorem kb_bool_str : kitB "bool" "str" = some false := by decide +kernel
theorem kb_none_str : kitB "NoneType" "str" = some false := by decide +kernel
theorem kb_list_str : kitB "list" "str" = some false := by decide +kernel
theorem kb_tuple_str : kitB "tuple" "str" = some false := by decide +kernel
theorem kb_dict_str : kitB "dict" "str" = some false := by decide +kernel
theorem kb_tuple_tuple : kitB "tuple" "tuple" = some true := by decide +kernel
theorem kb_list_list : kitB "list" "list" = some true := by decide +kernel
end Fx
/-! A def whose body begins with a token out (for str.replace): with cells too -/
namespace Fx
open PySem PySem.Spec PyProof.Rows L2
section
variable {M : Model} {A : Around} {E : Value → Shared → Prop} {s₀ s : Shared} {m cm : Str → Option Value} {env : Env}
theorem stLCT {n : Str} {v : Value} {Q : Unit → Shared → Prop} (x : InCallC s₀ env.locals m env.cells cm s) (hk : env.scope.kind = .function) (hl : env.kindOf n = some .local)
    (h : ∀ s', InCallC s₀ env.locals (fun y => if y = n then some v else m y) env.cells cm s' → 1 ≤ s'.toks → Q () s') : wpAny M A (storeName env n v) Q E s := by
  refine wpAny_storeName_local hl x.toInCall.ns (fun h' hn' hs' => h _ ⟨⟨?_, hn', fun b o e => ?_, x.toInCall.fresh⟩, fun k c hc => ?_, x.apart, x.above⟩ (Nat.le_add_left _ _)) (by rw [hk]; rfl)
  · obtain ⟨h₁, tk, rfl⟩ := x.toInCall.same
    exact ⟨h', _, rfl⟩
  · exact hs'.extBut b o (Nat.ne_of_lt (Nat.lt_of_lt_of_le (Heap.lt_size e) x.toInCall.fresh)) (x.toInCall.keep b o e)
  · exact (x.cell k c hc).sameBut hs' (Nat.ne_of_gt (x.above k c (mem_of_lookup hc)))
theorem bindParamsT (f : Str × Value → PUnit → Sem (ForInStep PUnit)) (hf : ∀ n v u, f (n, v) u = (do storeName env n v; pure (.yield ⟨⟩))) (hk : env.scope.kind = .function)
    (n : Str) (v : Value) (r : List (Str × Value)) (hl : env.kindOf n = some .local) (m cm : Str → Option Value) (s : Shared) (Q : PUnit → Shared → Prop) (x : InCallC s₀ env.locals m env.cells cm s)
    (hkind : ∀ y ∈ r, env.kindOf y.1 = some .local ∨ (env.kindOf y.1 = some .cell ∧ (env.cells.lookup y.1).isSome = true))
    (h : ∀ s', InCallC s₀ env.locals (bindL env.kindOf ((n, v) :: r) m) env.cells (bindC env.kindOf ((n, v) :: r) cm) s' → 1 ≤ s'.toks → Q ⟨⟩ s') : wpAny M A (forIn ((n, v) :: r) ⟨⟩ f) Q E s := by
  rw [List.forIn_cons, hf]
  refine wpAny_bind (wpAny_bind (stLCT x hk hl fun s' x' ht => wpAny_pure ?_))
  refine wpAny_with_toks ht (wpAny_bindParams f hf hk r _ _ s' (fun u s'' => 1 ≤ s''.toks → Q u s'') x' hkind fun s'' x'' ht' => h s'' ?_ ht')
  unfold bindL bindC
  rw [if_pos hl, if_pos hl]
  exact x''
end
section
variable {M : Model} {A : Around} {E : Value → Shared → Prop} {s : Shared}
theorem newFunctionEnvT {scope : Scope} {globals : Addr} {n : Str} {v : Value} {r : List (Str × Value)} {qual : Str} {func : Option Addr} {code : Value} {builtins : Addr} {Q : Env → Shared → Prop}
    (hk : scope.kind = .function) (hl : scope.names.lookup n = some .local)
    (hkind : ∀ x ∈ r, scope.names.lookup x.1 = some .local ∨ (scope.names.lookup x.1 = some .cell ∧ ((cellsFrom (s.heap.objs.size + 1) scope.names []).lookup x.1).isSome = true))
    (hQ : ∀ env, env = newEnv scope s.heap.objs.size globals (cellsFrom (s.heap.objs.size + 1) scope.names []) qual func code none builtins →
      ∀ s', InCallC s env.locals (bindL env.kindOf ((n, v) :: r) fun _ => none) env.cells (bindC env.kindOf ((n, v) :: r) fun _ => none) s' → 1 ≤ s'.toks → Q env s') :
    wpAny M A (newFunctionEnv scope globals [] ((n, v) :: r) qual func code none builtins) Q E s := by
  simp only [newFunctionEnv, Option.isSome_none, Bool.false_eq_true, if_false]
  refine wpAny_bind (wpAny_alloc ?_)
  refine wpAny_bind (wpAny_layCells _ (fun name kind cells => by cases hkc : kind == NameKind.cell <;> simp [hkc]) _ _ _ _ ?_)
  have ok := cellsFrom_ok scope.names (s.heap.push { cls := .type "frame", data := .dict #[] }) (s.heap.objs.size + 1) [] ⟨fun _ _ hm => (nomatch hm), List.Pairwise.nil⟩ (by rw [Heap.size_push]; exact Nat.le_refl _)
  rw [Heap.size_push] at ok
  rw [show ({ s with heap := s.heap.push { cls := .type "frame", data := .dict #[] } } : Shared).heap.objs.size = s.heap.objs.size + 1 from Heap.size_push ..]
  refine wpAny_bind (bindParamsT (s₀ := s) (env := newEnv scope s.heap.objs.size globals (cellsFrom (s.heap.objs.size + 1) scope.names []) qual func code none builtins)
    _ (fun _ _ _ => rfl) hk n v r hl (fun _ => none) (fun _ => none) _ _
    ⟨⟨⟨_, _, rfl⟩, (Heap.Ns.new s.heap (.type "frame")).keeps (pushCells_keeps _ _), fun b o e => pushCells_keeps _ _ b o (Heap.get?_push_of_some _ e), Nat.le_refl _⟩,
      fun n c hc => (ok.empty n c (mem_of_lookup hc)).1, ok.apart, fun n c hm => (ok.empty n c hm).2⟩
    hkind fun s' x ht => wpAny_pure (hQ _ rfl s' x ht))
end
/-- a def's body, a token out when it begins; its first parameter is a local -/
theorem fn_ofTC {CX : CXT} {P : Program} {w : World} {K : PySem.W.Frag} {mg : Str → Option Value} {base : Heap} {k : Nat} {f : Addr} {name qual : Str} {params : Arguments} {body : List Stmt} {scope : Scope} {dV kV doc pm cdv ct oc : Value} {an od : Option Addr}
    {osl : Array (Option Value)} {N ps : List Str} {x0 : Str} {sp : Sp} (lk : K.lookup f = some ⟨oc, od, .func (PySem.W.fnOf name qual params body scope dV kV doc pm an cdv ct), osl⟩) (hcd : PySem.W.codeIn K cdv qual = true) (S : FnScope N (x0 :: ps) scope)
    (h0 : scope.names.lookup x0 = some .local) (len : ∀ vs H Q E, sp vs H Q E → vs.length = (x0 :: ps).length)
    (hbody : ∀ (A : Around) (outer : List Env) (s : Shared) (H : Hp) (vs : List V) (Q : VK) (E : XK), Room k (A.deeper (envOfC qual scope s.heap.objs.size f cdv)) → sp vs H Q E →
      ∃ t, PSsT (cxOf CX P w K mg base N qual scope f cdv A outer s H E) body t ∧ t { nx := fun _ H' => Q .non H', rt := Q } (L2.start N vs) H) :
    FnOk P w K mg base CX (k + 1) f (PySem.W.fnOf name qual params body scope dV kV doc pm an cdv ct) (x0 :: ps) sp := by
  refine ⟨len, fun A outer s H args us vs Q E hr e0 hb r hsp => ?_⟩
  have hl := len _ _ _ _ hsp
  have KX : K.In s.heap := e0.mod.kin.keeps fun b o e => (e0.bs b o e).1
  have lim : s.heap.NoLimit := e0.mod.nolimit.keeps fun b o e => (e0.bs b o e).1
  have hul : us.length = (x0 :: ps).length := by rw [← r.length, hl]
  obtain ⟨u0, ur, rfl⟩ : ∃ u0 ur, us = u0 :: ur := by
    cases us with
    | nil => cases hul
    | cons a b => exact ⟨a, b, rfl⟩
  have hkind : ∀ y ∈ ps.zip ur, scope.names.lookup y.1 = some .local ∨ (scope.names.lookup y.1 = some .cell ∧ ((cellsFrom (s.heap.objs.size + 1) scope.names []).lookup y.1).isSome = true) := fun ⟨n, v⟩ hy => by
    rcases S.par n (List.mem_cons_of_mem _ (List.of_mem_zip hy).1) with q | q
    · exact .inl q
    · exact .inr ⟨q, PySem.W.cellsFrom_some _ _ _ (.inl q)⟩
  refine codeAny_call_function hr.depth (KX _ _ lk) rfl S.co S.gen rfl (PySem.W.codeRec_of KX hcd) (hb _ _ _ _ ?_)
  show wpAny _ _ (newFunctionEnv scope _ [] ((x0, u0) :: ps.zip ur) _ _ _ _ _) _ _ _
  refine newFunctionEnvT S.kind h0 hkind fun env he s1 x ht => ?_
  subst he
  refine ⟨lim.keeps x.toInCall.keep, codeAny_func ?_⟩
  obtain ⟨t, hT, hq⟩ := hbody A outer s H vs Q E (hr.deeper _) hsp
  have I : Inv (cxOf CX P w K mg base N qual scope f cdv A outer s H E) [] (L2.start N vs) H s1 := inv_start S hr.hd e0 hl r x
  refine wpAny_mono (hT [] s1 (L2.start N vs) H _ ht I hq) (fun fl s' hs => ?_) fun e s' hs => hs
  have fin : ∀ {σ' : L2.St} {H' : Hp} {v : V} {u : Value}, Inv (cxOf CX P w K mg base N qual scope f cdv A outer s H E) [] σ' H' s' → RelV v u → Q v H' → CE outer P w H s Q u s' :=
    fun {σ' H' v u} J rv q => ⟨v, H', J.os, J.bare, J.base, J.hok, rv, q⟩
  cases fl with
  | ret u =>
    obtain ⟨v, σ', H', J, rv, q⟩ := hs
    exact fin J rv q
  | next =>
    obtain ⟨σ', H', J, q⟩ := hs
    exact fin (v := V.non) (u := Value.none) J rfl q
  | brk =>
    obtain ⟨_, _, _, q⟩ := hs
    exact False.elim q
  | cont =>
    obtain ⟨_, _, _, q⟩ := hs
    exact False.elim q
/-! ### tests, calls, slices with a token out -/
section
variable {X : Cx}
def PTT (X : Cx) (e : Expr) (t : TT) : Prop := ∀ (pins : List (Addr × Obj)) (s : Shared) (σ : L2.St) (H : Hp) (Q : Bool → Hp → Prop), 1 ≤ s.toks → Inv X pins σ H s → t σ H Q → wpAny (model X.prog X.w) X.A (isTrue e X.env (eval e X.env)) (TP X pins σ Q) X.xe s
def PWT (X : Cx) (e : Expr) (t : TT) : Prop := ∀ (whole : Sem Value) (pins : List (Addr × Obj)) (s : Shared) (σ : L2.St) (H : Hp) (Q : Bool → Hp → Prop), 1 ≤ s.toks → Inv X pins σ H s → t σ H Q → wpAny (model X.prog X.w) X.A (isTrue e X.env whole) (TP X pins σ Q) X.xe s
theorem PWT.pt {e : Expr} {t : TT} (h : PWT X e t) : PTT X e t := h _
theorem ptt_val {e : Expr} {t : TE} (h : PET X e t) (he : ∀ whole, isTrue e X.env whole = (do let v ← whole; standAt e.pos; holding [v] (truthy v)) := by intro _; rfl) : PTT X e (tB t) := by
  intro pins s σ H Q ht I hw
  refine isTrue_plain (thn (h pins s σ H _ ht I hw) fun v s1 ⟨x, H1, I1, r1, q1⟩ => ?_) (he _)
  obtain ⟨d, rfl, q⟩ := q1
  cases r1
  exact wpAny_truthy_bool ⟨H1, I1, q⟩
theorem ptt_not {a : Expr} {tA : TT} {pos : Pos} (ha : PTT X a tA) : PTT X (.UnaryOp .Not a pos) (tNot tA) := by
  intro pins s σ H Q ht I h
  exact isTrue_not (ha pins s σ H (fun c H1 => Q (!c) H1) ht I h)
theorem pwt_or1 {a : Expr} {tA : TT} {pos : Pos} (ha : PTT X a tA) : PWT X (.BoolOp .Or [a] pos) tA := by
  intro wh pins s σ H Q ht I h
  refine isTrue_or (thn (ha pins s σ H Q ht I h) fun c s1 e => ?_)
  cases c with
  | false => exact isTrue_or_nil e
  | true => exact e
theorem pwt_or {a b : Expr} {rest : List Expr} {tA tB' : TT} {pos : Pos} (ha : PT X a tA) (hb : PWT X (.BoolOp .Or (b :: rest) pos) tB') : PWT X (.BoolOp .Or (a :: b :: rest) pos) (tOr tA tB') := by
  intro wh pins s σ H Q ht I h
  refine isTrue_or (wpAny_mono (wpAny_toks_of ht (ha.run pins s σ H _ I h)) (fun c s1 z => ?_) fun _ _ z => z.2)
  obtain ⟨ht1, H1, I1, q1⟩ := z
  cases c with
  | true => exact ⟨H1, I1, q1⟩
  | false => exact hb wh pins s1 σ H1 Q ht1 I1 q1
theorem pst_ifT {c : Expr} {a b : List Stmt} {tc : TT} {t u : TS} {pos : Pos} (hc : PTT X c tc) (ha : PSs X a t) (hb : PSs X b u) : PST X (.If c a b pos) (tIfS tc t u) := by
  intro pins s σ H D ht I h
  refine wpAny_If (thn (hc pins s σ H _ ht I h) fun d s1 ⟨H1, I1, q1⟩ => ?_)
  cases d with
  | true => exact ha.run pins s1 σ H1 D I1 q1
  | false => exact hb.run pins s1 σ H1 D I1 q1
theorem psst_s {st : Stmt} {rest : List Stmt} {t u : TS} (h1 : PS X st t) (h2 : PSsT X rest u) : PSsT X (st :: rest) (tSeq t u) := psst_cons (PST.of h1) h2
def noSt : Stmt := .Pass ⟨0, 0, 0, 0⟩
theorem drop_at : ∀ (l : List Stmt) (i : Nat), i < l.length → l.drop i = l.getD i noSt :: l.drop (i + 1)
  | [], i, h => absurd h (Nat.not_lt_zero _)
  | a :: l, 0, _ => rfl
  | a :: l, i + 1, h => drop_at l i (Nat.lt_of_succ_lt_succ h)
/-- PSsT behind a structure: a def that unfolds to a ∀ is walked by the elaborator after every application -/
structure PZ (X : Cx) (l : List Stmt) (t : TS) : Prop where
  run : PSsT X l t
structure PZ1 (X : Cx) (st : Stmt) (t : TS) : Prop where
  run : PST X st t
theorem PZ.of {l : List Stmt} {t : TS} (h : PSs X l t) : PZ X l t := ⟨PSsT.of h⟩
theorem pz_at1 {l : List Stmt} {i : Nat} {t u : TS} (h : i < l.length) (h1 : PZ1 X (l.getD i noSt) t) (h2 : PZ X (l.drop (i + 1)) u) : PZ X (l.drop i) (tSeq t u) := by
  refine ⟨?_⟩
  rw [drop_at l i h]
  exact psst_cons h1.run h2.run
theorem pz_at {l : List Stmt} {i : Nat} {t u : TS} (h : i < l.length) (h1 : PS X (l.getD i noSt) t) (h2 : PZ X (l.drop (i + 1)) u) : PZ X (l.drop i) (tSeq t u) := pz_at1 h ⟨PST.of h1⟩ h2
theorem pz_at0 {l : List Stmt} {t : TS} (h : PZ X (l.drop 0) t) : PZ X l t := h
theorem pz_ifT {c : Expr} {a b : List Stmt} {tc : TT} {t u : TS} {pos : Pos} (hc : PTT X c tc) (ha : PSs X a t) (hb : PSs X b u) : PZ1 X (.If c a b pos) (tIfS tc t u) := ⟨pst_ifT hc ha hb⟩
theorem pss_at {l : List Stmt} {i : Nat} {t u : TS} (h : i < l.length) (h1 : PS X (l.getD i noSt) t) (h2 : PSs X (l.drop (i + 1)) u) : PSs X (l.drop i) (tSeq t u) := by
  rw [drop_at l i h]
  exact pss_cons h1 h2
theorem pss_at0 {l : List Stmt} {t : TS} (h : PSs X (l.drop 0) t) : PSs X l t := h
theorem pet_slice {e : Expr} {te : TE} {lo hi : Option Expr} {tl th : TO} {p2 pos : Pos} {r : V → Option Int → Option Int → Hp → VK → Prop} (hr : SlR X r) (he : PET X e te) (hl : PO X lo tl) (hu : PO X hi th) : PET X (.Subscript e (.Slice lo hi none p2) pos) (tSl r te tl th) := by
  intro pins s σ H Q ht I h
  refine Subscript_ (thn (he pins s σ H _ ht I h) fun v s1 ⟨x, H1, I1, r1, q1⟩ => ?_)
  refine wpAny_Slice (thn (hl.run pins s1 σ H1 _ I1 q1) fun vl s2 ⟨l, H2, I2, pl, q2⟩ => thn (hu.run pins s2 σ H2 _ I2 q2) fun vu s3 ⟨u, H3, I3, pu, q3⟩ => ?_)
  rw [evalPart_none]
  refine wpAny_pure ?_
  have I4 : Inv X pins σ H3 { s3 with heap := s3.heap.push { cls := .type "slice", data := .fields #[vl, vu, .none] } } := I3.kept (t' := s3.toks) fun b ob q => Heap.get?_push_of_some _ q
  obtain ⟨T, id, hT, ht, hg⟩ := hr pins { s3 with heap := s3.heap.push { cls := .type "slice", data := .fields #[vl, vu, .none] } } σ H3 x v vl vu l u s3.heap.objs.size Q I4 r1 (Heap.IsSliceOf.new ..) pl pu q3
  show wpAny (model X.prog X.w) X.A (subscriptTail e (.Slice lo hi none p2) v (.ref s3.heap.objs.size)) (EP X pins σ Q) X.xe { s3 with heap := s3.heap.push { cls := .type "slice", data := .fields #[vl, vu, .none] } }
  exact tail_any (ops := [.ref s3.heap.objs.size, v]) ht hT hg (by with_unfolding_all rfl)
theorem pet_cal {x : Str} {ps : List Str} {sp : Sp} {k : Nat} {CX : CXT} {E : XK} {e : Expr} {es : List Expr} {t : TA} {p pos : Pos} (C : Cal X.prog X.w X.K X.mg X.base CX k x ps sp) (hr : Room k X.A) (hx : Passes CX X E) (ha : PAT X (e :: es) t) (hg : Gl X x := by rfl) (hdb : (x == ("__debug__" : Str)) = false := by decide)
    (hs : (e :: es).all nostar = true := by rfl) : PET X (.Call (.Name x p) (e :: es) [] pos) (tCall sp [] E t) := by
  obtain ⟨f, fd, g, kp, b, F⟩ := C.ex
  simp only [List.all_cons, Bool.and_eq_true] at hs
  intro pins s σ H Q ht I h
  refine wpAny_Call_Name_kw (ld_glob I hg g ?_ hdb)
  refine PySem.W.callWith_K (h₀ := X.base) I.ok.mod.kin kp (thn (ha pos pins s σ H _ ht I h) fun us s1 ⟨vs, H1, I1, r, q⟩ => ⟨I1.kIn, ?_⟩) (star_ok hs.1) (back_ok hs.2)
  exact run_fn F hr b .nil hx I1 r q
end
section
variable {P : Program} {w : World} {K : PySem.W.Frag} {mg : Str → Option Value} {base : Heap} {x x0 : Str} {st : Stmt} {N ps : List Str} {k : Nat} {sp : Sp}
theorem Src.calT (S : Src K mg x st) (sc : FnScope N (x0 :: ps) (defScope st)) (bn : BindP x st (x0 :: ps)) (h0 : (defScope st).names.lookup x0 = some .local) (len : ∀ vs H Q E, sp vs H Q E → vs.length = (x0 :: ps).length)
    (hbody : ∀ (f : Addr) (cdv : Value) (A : Around) (outer : List Env) (s : Shared) (H : Hp) (vs : List V) (Q : VK) (E : XK), Room k (A.deeper (envOfC x (defScope st) s.heap.objs.size f cdv)) → sp vs H Q E →
      ∃ t, PZ (cxOf CX0 P w K mg base N x (defScope st) f cdv A outer s H E) (defBody st) t ∧ t { nx := fun _ H' => Q .non H', rt := Q } (L2.start N vs) H) : Cal P w K mg base CX0 (k + 1) x (x0 :: ps) sp := by
  obtain ⟨f, fd, g, F⟩ := S
  refine ⟨f, fd, g, F.kp, F.bindsN bn, ?_⟩
  obtain ⟨oc, od, dV, kV, doc, pm, an, cdv, ct, osl, rfl, lk, hcd, _, _⟩ := F.ex
  exact fn_ofTC lk hcd sc h0 len fun A outer s H vs Q E hr hsp => by
    obtain ⟨t, h1, h2⟩ := hbody f cdv A outer s H vs Q E hr hsp
    exact ⟨t, h1.run, h2⟩
end
/-! ### the law's own def -/
section
variable {P : Program} {w : World} {K : PySem.W.Frag} {mg : Str → Option Value} {base : Heap} {x x0 : Str} {st : Stmt} {N ps : List Str} {k : Nat} {sp : Sp} {f : Addr} {fd : FuncData}
theorem lawT (F : FunD K x x (defArgs st) (defBody st) (defScope st) [] [] f fd) (sc : FnScope N (x0 :: ps) (defScope st)) (h0 : (defScope st).names.lookup x0 = some .local) (len : ∀ vs H Q E, sp vs H Q E → vs.length = (x0 :: ps).length)
    (hbody : ∀ (f : Addr) (cdv : Value) (A : Around) (outer : List Env) (s : Shared) (H : Hp) (vs : List V) (Q : VK) (E : XK), Room k (A.deeper (envOfC x (defScope st) s.heap.objs.size f cdv)) → sp vs H Q E →
      ∃ t, PZ (cxOf CX0 P w K mg base N x (defScope st) f cdv A outer s H E) (defBody st) t ∧ t { nx := fun _ H' => Q .non H', rt := Q } (L2.start N vs) H) : FnOk P w K mg base CX0 (k + 1) f fd (x0 :: ps) sp := by
  obtain ⟨oc, od, dV, kV, doc, pm, an, cdv, ct, osl, rfl, lk, hcd, _, _⟩ := F.ex
  exact fn_ofTC lk hcd sc h0 len fun A outer s H vs Q E hr hsp => by
    obtain ⟨t, h1, h2⟩ := hbody f cdv A outer s H vs Q E hr hsp
    exact ⟨t, h1.run, h2⟩
theorem law0 (F : FunD K x x (defArgs st) (defBody st) (defScope st) [] [] f fd) (sc : FnScope N ps (defScope st)) (len : ∀ vs H Q E, sp vs H Q E → vs.length = ps.length)
    (hbody : ∀ (f : Addr) (cdv : Value) (A : Around) (outer : List Env) (s : Shared) (H : Hp) (vs : List V) (Q : VK) (E : XK), Room k (A.deeper (envOfC x (defScope st) s.heap.objs.size f cdv)) → sp vs H Q E →
      ∃ t, PSs (cxOf CX0 P w K mg base N x (defScope st) f cdv A outer s H E).nox (defBody st) t ∧ t { nx := fun _ H' => Q .non H', rt := Q } (L2.start N vs) H) : FnOk P w K mg base CX0 (k + 1) f fd ps sp := by
  refine F.ok sc len fun cdv A outer s H vs Q E hr hsp => ?_
  obtain ⟨t, h, q⟩ := hbody f cdv A outer s H vs Q E hr hsp
  exact ⟨t, h.nox, q⟩
theorem cst_int {i : Int} (h : ∃ t, mg x = some (.int i t)) : Cst mg x (.int i) := by
  obtain ⟨t, h⟩ := h
  exact ⟨_, h, ⟨t, rfl⟩⟩
theorem cst_ref {a : Addr} (h : mg x = some (.ref a)) : Cst mg x (.ref a) := ⟨_, h, rfl⟩
theorem cst_str {z : Str} (h : ∃ t, mg x = some (.str z t)) : Cst mg x (.str z) := by
  obtain ⟨t, h⟩ := h
  exact ⟨_, h, ⟨t, rfl⟩⟩
end
end Fx
/-! for i, x in enumerate(t), t a tuple; a list or a tuple -/
namespace Fx
open PySem PySem.Spec PyProof.Rows L2
open AutoSeq1 (wpAny_loadPart')
theorem enum_newT (l : Addr) (items : Array Value) (n : Nat) (dct : Option Addr) (sl : Array (Option Value)) :
    Meets (Builtin.«enumerate.__new__» ⟨[.type "enumerate", .ref l], []⟩) (fun _ R s => s.heap.get? l = some { cls := .type "tuple", dict := dct, data := .seq items n, slots := sl } ∧
      R (.ok (.ret (.ref (s.heap.push { cls := .type "tuple_iterator", data := .fields #[.ref l, .int 0 0] }).objs.size)))
        { s with heap := (s.heap.push { cls := .type "tuple_iterator", data := .fields #[.ref l, .int 0 0] }).push { cls := .type "enumerate", data := .fields #[.none, .bool false, .ref s.heap.objs.size, rawInt 0, .none, .none] } }) :=
  .of_wp fun prog w A R s h => by
    obtain ⟨hp, g, d, tk, os⟩ := s
    obtain ⟨hl, h⟩ := h
    have hsub := sub_enumerate
    have hL : Heap.IsTuple (Shared.heap ⟨hp, g, d, tk, os⟩) l items := ⟨_, hl, rfl, n, rfl⟩
    wp_walk using wpAny_loadPart' hl
    refine wpAny_stack_any fun st => wpAny_pure ?_
    split
    · rename_i c _ _ _ _ _
      cases (c == Value.type "enumerate")
      · wp_walk using wpAny_loadPart' hl, wpAny_pyIter_tuple hL
        exact ⟨_, rfl, h⟩
      · wp_walk using wpAny_loadPart' hl, wpAny_pyIter_tuple hL
        exact ⟨_, rfl, h⟩
    · wp_walk using wpAny_loadPart' hl, wpAny_pyIter_tuple hL
      exact ⟨_, rfl, h⟩
theorem call_enumT {prog : Program} {w : World} {A : Around} {E : Value → Shared → Prop} {s : Shared} {l : Addr} {items : Array Value} {Q : Value → Shared → Prop} (hL : s.heap.IsTuple l items)
    (h : ∀ h', IsEnum h' (s.heap.objs.size + 1) s.heap.objs.size 0 .none → h'.IsTupleIter s.heap.objs.size l 0 → h'.objs.size = s.heap.objs.size + 2 →
      (∀ b o, s.heap.get? b = some o → h'.get? b = some o) → Q (.ref (s.heap.objs.size + 1)) { s with heap := h' }) :
    wpAny (model prog w) A (call (.type "enumerate") [.ref l]) Q E s := by
  obtain ⟨⟨c, dct, dt, sl⟩, hl, hc, n, hd⟩ := hL
  replace hc : c = .type "tuple" := hc
  replace hd : dt = .seq items n := hd
  subst hc hd
  refine callType_new F.called_enumerate (by decide) (F.typeCall_enumerate_1 _) (F.newCall_enumerate_1 _) (fun obj => F.args_object_init_2 obj _) F.entry_enumerate_new
    (enum_newT l items n dct sl) ⟨hl, ?_⟩
  have hz : (s.heap.push { cls := .type "tuple_iterator", data := .fields #[.ref l, .int 0 0] }).objs.size = s.heap.objs.size + 1 := Heap.size_push ..
  show _ ∧ _
  rw [hz]
  have he : IsEnum ((s.heap.push { cls := .type "tuple_iterator", data := .fields #[.ref l, .int 0 0] }).push
      { cls := .type "enumerate", data := .fields #[.none, .bool false, .ref s.heap.objs.size, rawInt 0, .none, .none] }) (s.heap.objs.size + 1) s.heap.objs.size 0 .none := by
    have := Heap.get?_push_size (s.heap.push { cls := .type "tuple_iterator", data := .fields #[.ref l, .int 0 0] })
      (o := { cls := .type "enumerate", data := .fields #[.none, .bool false, .ref s.heap.objs.size, rawInt 0, .none, .none] }) rfl
    rw [hz] at this
    exact this
  exact ⟨⟨_, he, rfl⟩, h _ he ⟨_, Heap.get?_push_of_some _ (Heap.get?_push_size _ rfl), rfl, rfl⟩ (by rw [Heap.size_push, hz]) fun b o x => Heap.get?_push_of_some _ (Heap.get?_push_of_some _ x)⟩
def IteT (K : PySem.W.Frag) (a : Addr) : It :=
  ⟨fun i H => ∃ (xs : List V) (x : V), SqT K H a xs ∧ xs[i]? = some x, fun i H v H' => ∃ T x, v = .ref T ∧ H T = none ∧ H' = upd H T (.tup [.int (i : Nat), x]) ∧ ∀ xs, SqT K H a xs → xs[i]? = some x, fun i H => ∃ xs : List V, SqT K H a xs ∧ xs.length = i⟩
theorem turn_enumT {P : Program} {w : World} {K : PySem.W.Frag} {elts : List Expr} {kk : Nat} {tpos : Pos} (a e it : Addr) :
    Turn P w K (.Tuple elts kk tpos) (IteT K a) [e, it] e (fun i h => (∃ old, IsEnum h e it ((i : Nat) : Int) old) ∧ h.IsTupleIter it a i ∧ e ≠ it ∧ a ≠ e ∧ a ≠ it) where
  mem := by simp
  obj := fun i h st b hb => by
    obtain ⟨⟨old, he⟩, ⟨o, ho, hc, hd⟩, _⟩ := st
    have e' : b = e ∨ b = it := by simpa using hb
    rcases e' with z | z
    · rw [z]
      exact ⟨_, he, fun v q => nomatch q⟩
    · rw [z]
      exact ⟨o, ho, fun v q => by rw [hd] at q; cases q⟩
  keep := fun i h h' st k => let ⟨⟨old, he⟩, ⟨o, ho, hr⟩, hne⟩ := st; ⟨⟨old, k e (by simp) _ he⟩, ⟨o, k it (by simp) o ho, hr⟩, hne⟩
  item := by
    intro X hP hw hK hc i pins s σ H E I hf st hg
    subst hP hw hK
    obtain ⟨⟨old, he⟩, hit, hne, hae, hai⟩ := st
    obtain ⟨xs, x, hq, hx⟩ := hg
    obtain ⟨its, rv, p, hz⟩ := I.tuple hq
    obtain ⟨u0, hu0, ru⟩ := rv.get hx
    have hel : e < s.heap.objs.size := Heap.lt_size he
    have hil : it < s.heap.objs.size := by obtain ⟨_, q, _⟩ := hit; exact Heap.lt_size q
    have D := Draws.tuple (prog := X.prog) (w := X.w) (A := X.A.in1) (show X.A.in1.handled = none from I.ok.hd hc) it a hai its.toArray
    have hin : i < its.toArray.size := by
      have := (List.getElem?_eq_some_iff.mp hu0).1
      simpa using this
    refine wpAny_pyNext_enum_itemD D he ⟨hit, p⟩ hin hne (by simp [hne, Ne.symm hae]) fun u h' tk hu ho hit' hT hsz hk => ?_
    have eu : u = u0 := by
      have h1 : its[i]? = some u := by simpa using hu
      rw [hu0] at h1
      exact (Option.some.inj h1).symm
    subst eu
    refine ⟨_, rfl, wpAny_letOwnedTupleGo_enum (s := { s with heap := h', toks := tk + 1 }) ho fun h'' he' sb => ?_⟩
    have hT2 : h''.get? s.heap.objs.size = some { cls := .type "tuple", data := .seq #[.int i tk, u] } := (sb.2 _ (Nat.ne_of_gt hel)).trans hT
    have new : ObjOk X.prog X.w (upd H s.heap.objs.size (.tup [.int (i : Nat), x])) h'' s.heap.objs.size (.tup [.int (i : Nat), x]) :=
      ⟨by show 2 ≤ sizeLine; decide, [.int i tk, u], .cons ⟨_, rfl⟩ (.cons ru .nil), ⟨_, hT2, rfl, _, rfl⟩⟩
    have I1 : Inv X pins σ (upd H s.heap.objs.size (.tup [.int (i : Nat), x])) { s with heap := h'', toks := tk + 1 } :=
      I.turnedNew (ch := [e, it]) (fun b ob hb q => (sb.2 b (fun z => hb (by simp [z]))).trans (hk b ob (fun z => hb (by simp [z])) (fun z => hb (by simp [z])) q)) hf (Nat.le_refl _) new
    refine ⟨.ref s.heap.objs.size, _, I1, rfl, ⟨_, x, rfl, I.hok.fresh (Nat.le_refl _), rfl, fun ys hy => by rw [I.tuple_inj hy hq]; exact hx⟩, ⟨⟨u, ?_⟩, ?_, hne, hae, hai⟩, fun b hb => ?_⟩
    · have e1 : ((i + 1 : Nat) : Int) = (i : Int) + 1 := by omega
      rw [e1]
      exact he'
    · obtain ⟨⟨o, ho2, hr⟩, _⟩ := hit'
      exact ⟨o, (sb.2 it (Ne.symm hne)).trans ho2, hr⟩
    · have hb' : b < s.heap.objs.size := by
        have e' : b = e ∨ b = it := by simpa using hb
        rcases e' with z | z
        · rw [z]; exact hel
        · rw [z]; exact hil
      rw [upd_ne (Nat.ne_of_lt hb')]
      exact (hf b hb).1
  done := by
    intro X hP hw hK hc i pins s σ H E I hf st hg
    subst hP hw hK
    obtain ⟨⟨old, he⟩, hit, hne, hae, hai⟩ := st
    obtain ⟨xs, hq, hx⟩ := hg
    obtain ⟨its, rv, p, hz⟩ := I.tuple hq
    obtain ⟨f0, f1, f2, f3, f4, f5⟩ := hf it (by simp)
    have hl := rv.length
    have D := Draws.tuple (prog := X.prog) (w := X.w) (A := X.A.in1) (show X.A.in1.handled = none from I.ok.hd hc) it a hai its.toArray
    have hi : i = its.toArray.size := by
      rw [List.size_toArray]
      omega
    subst hi
    exact wpAny_pyNext_enum_endD D he ⟨hit, p⟩ fun h' eb => ⟨rfl, I.turned (t' := s.toks) (fun b o hb q => eb b o hb q) f0 f1 f3 f4 f5⟩
  self := fun A i s Q E st h => let ⟨⟨_, he⟩, _⟩ := st; wpAny_pyIter_enum he h
def iEnumT (K : PySem.W.Frag) (ta : TA) : TI := fun σ H R => ta σ H fun vs H1 => ∃ a xs, vs = [.ref a] ∧ SqT K H1 a xs ∧ R (IteT K a) H1
section
variable {X : Cx} {e : Expr} {ta : TA} {p pos tpos : Pos} {elts : List Expr} {kk : Nat}
theorem pi_enumT (hg : Gl X "enumerate") (hm : X.mg "enumerate" = none) (ha : PA X [e] ta) (hs : starEach [e] X.env = [(false, eval e X.env)] := by rfl) :
    PI X (.Tuple elts kk tpos) (.Call (.Name "enumerate" p) [e] [] pos) (iEnumT X.K ta) := by
  refine ⟨fun pins s σ H R I h => ?_⟩
  refine Call_ (ld_blt I hg hm boot_enumerate (PyProof.Rows.callWith_type1 (thn (ha.run pos pins s σ H _ I h) fun us s1 ⟨vs, H1, I1, r1, q1⟩ => ?_) hs rfl))
  obtain ⟨a, xs, ex, hq, q⟩ := q1
  subst ex
  cases r1 with
  | cons r rr =>
    cases rr
    cases r
    obtain ⟨its, rv, p', hz⟩ := I1.tuple hq
    have hla : a < s1.heap.objs.size := by
      obtain ⟨o, ho, _⟩ := p'
      exact Heap.lt_size ho
    refine call_enumT p' fun h' he hit hsz hk => wpAny_pyIter_enum he ?_
    have I2 : Inv X pins σ H1 { s1 with heap := h' } := I1.kept (t' := s1.toks) hk
    refine ⟨s1.heap.objs.size + 1, [s1.heap.objs.size + 1, s1.heap.objs.size], _, _, H1, rfl, I2, turn_enumT a (s1.heap.objs.size + 1) s1.heap.objs.size, ⟨⟨.none, he⟩, hit, Nat.succ_ne_self _, Nat.ne_of_lt (Nat.lt_succ_of_lt hla), Nat.ne_of_lt hla⟩, fun b hb => ?_, q⟩
    have e' : b = s1.heap.objs.size + 1 ∨ b = s1.heap.objs.size := by simpa using hb
    have hle : s1.heap.objs.size ≤ b := by
      rcases e' with z | z
      · rw [z]; exact Nat.le_add_right _ _
      · rw [z]; exact Nat.le_refl _
    exact I1.fpOk hle (I1.hok.fresh hle)
/-- a list or a tuple -/
def iEnumQ (K : PySem.W.Frag) (ta : TA) : TI := fun σ H R => iEnum K ta σ H R ∨ iEnumT K ta σ H R
theorem pi_enumQ (hg : Gl X "enumerate") (hm : X.mg "enumerate" = none) (ha : PA X [e] ta) (hs : starEach [e] X.env = [(false, eval e X.env)] := by rfl) :
    PI X (.Tuple elts kk tpos) (.Call (.Name "enumerate" p) [e] [] pos) (iEnumQ X.K ta) := by
  refine ⟨fun pins s σ H R I h => ?_⟩
  rcases h with h | h
  · exact (pi_enum hg hm ha hs).run pins s σ H R I h
  · exact (pi_enumT hg hm ha hs).run pins s σ H R I h
def iQ (K : PySem.W.Frag) (tl : TE) : TI := fun σ H R => iList K tl σ H R ∨ iTup K tl σ H R
theorem pi_Q {tg l : Expr} {tl : TE} (hl : PE X l tl) : PI X tg l (iQ X.K tl) := by
  refine ⟨fun pins s σ H R I h => ?_⟩
  rcases h with h | h
  · exact (pi_list hl).run pins s σ H R I h
  · exact (pi_tup hl).run pins s σ H R I h
end
/-- a list or a tuple that stands in the tracked heap -/
def Sq (H : Hp) (p : Addr) (xs : List V) : Prop := H p = some (.lst xs) ∨ H p = some (.tup xs)
theorem Sq.same {H H' : Hp} {p : Addr} {xs : List V} (h : Sq H p xs) (s : Same H H') : Sq H' p xs := by
  rcases h with h | h
  · exact .inl (s _ _ h)
  · exact .inr (s _ _ h)
section
variable {X : Cx}
def rIxQ : R2 := fun x y H Q => ∃ p i xs, x = .ref p ∧ y = .int i ∧ Sq H p xs ∧ ∃ v, atI xs i = some v ∧ Q v H
theorem ix_Q : IxR X rIxQ := by
  have h1 : IxR X rIxLt := ix_L
  have h2 : IxR X rIxTt := ix_T
  intro ve se pins s σ H x y v u Q I rx ry h hs
  obtain ⟨p, i, xs, e1, e2, hq, w, hw, q⟩ := h
  rcases hq with hq | hq
  · exact h1 ve se pins s σ H x y v u Q I rx ry ⟨p, i, xs, e1, e2, hq, w, hw, q⟩ hs
  · exact h2 ve se pins s σ H x y v u Q I rx ry ⟨p, i, xs, e1, e2, hq, w, hw, q⟩ hs
def rLenQ : List V → Hp → VK → Prop := fun vs H Q => ∃ p xs, vs = [.ref p] ∧ Sq H p xs ∧ Q (.int (xs.length : Nat)) H
theorem len_Q : CallR X (.builtin "len") rLenQ := CallR.imp call_len_seq fun vs H Q ⟨p, ys, e, h, q⟩ => ⟨p, ys, e, h.elim (fun h => .inl (.inl (.inl h))) (fun h => .inr (.inl (.inl h))), q⟩
def rTupQ : List V → Hp → VK → Prop := fun vs H Q => ∃ p xs, vs = [.ref p] ∧ Sq H p xs ∧ ∀ l H', Same H H' → H' l = some (.tup xs) → Q (.ref l) H'
theorem tup_Q : CallR X (.type "tuple") rTupQ := CallR.imp call_tuple_of fun vs H Q ⟨p, ys, e, h, q⟩ => ⟨p, ys, e, h.elim (fun h => .inl ⟨.inl (.inl h), fun l nl => q l _ (same_new nl) upd_same⟩) (fun h => .inr ⟨.inl (.inl h), q p H (Same.refl H) h⟩)⟩
def rTupL : List V → Hp → VK → Prop := fun vs H Q => ∃ p xs, vs = [.ref p] ∧ H p = some (.lst xs) ∧ ∀ l, H l = none → Q (.ref l) (upd H l (.tup xs))
theorem tup_L : CallR X (.type "tuple") rTupL := CallR.imp call_tuple_of fun vs H Q ⟨p, ys, e, h, q⟩ => ⟨p, ys, e, .inl ⟨.inl (.inl h), q⟩⟩
end
/-- the loop over enumerate(a list or a tuple) -/
theorem for_enumQ {K : PySem.W.Frag} {ta : TA} {a : Addr} {xs : List V} {g : TG} {tb : TS} {D : Ends} {σ : L2.St} {H : Hp} (hta : ∀ Q : List V → Hp → Prop, Q [.ref a] H → ta σ H Q) (hq : Sq H a xs) (Pv : Nat → L2.St → Hp → Prop) (h0 : Pv 0 σ H)
    (hl : ∀ i σ H', Pv i σ H' → ∀ o, H a = some o → H' a = some o)
    (hs : ∀ i x T σ H, xs[i]? = some x → Pv i σ H → H T = none → g (.ref T) σ (upd H T (.tup [.int (i : Nat), x])) fun σ' H' => tb { D with nx := Pv (i + 1), ct := Pv (i + 1), bk := D.nx } σ' H')
    (hd : ∀ σ H, Pv xs.length σ H → D.nx σ H) : tFor (iEnumQ K ta) g tb D σ H := by
  rcases hq with hq | hq
  · refine .inl (hta _ ⟨a, xs, rfl, .inl (.inl hq), ?_⟩)
    refine ⟨fun i m σ H' => m = xs.length - i ∧ i ≤ xs.length ∧ Pv i σ H', ⟨_, rfl, Nat.zero_le _, h0⟩, ?_⟩
    rintro i m σ H' ⟨rfl, hi, p⟩
    have hk : SqL K H' a xs := .inl (.inl (hl i σ H' p _ hq))
    by_cases hlt : i < xs.length
    · refine .inr ⟨⟨xs, xs[i], hk, by simp [hlt]⟩, fun σ' H' => Pv (i + 1) σ' H', fun σ' H' q => ⟨xs.length - (i + 1), by omega, rfl, hlt, q⟩, fun x H2 hy => ?_⟩
      obtain ⟨T, c, rfl, nT, rfl, hc⟩ := hy
      exact hs i c T σ H' (hc xs hk) p nT
    · have ei : i = xs.length := by omega
      subst ei
      exact .inl ⟨⟨xs, hk, Nat.le_refl _⟩, hd σ H' p⟩
  · refine .inr (hta _ ⟨a, xs, rfl, .inl (.inl hq), ?_⟩)
    refine ⟨fun i m σ H' => m = xs.length - i ∧ i ≤ xs.length ∧ Pv i σ H', ⟨_, rfl, Nat.zero_le _, h0⟩, ?_⟩
    rintro i m σ H' ⟨rfl, hi, p⟩
    have hk : SqT K H' a xs := .inl (.inl (hl i σ H' p _ hq))
    by_cases hlt : i < xs.length
    · refine .inr ⟨⟨xs, xs[i], hk, by simp [hlt]⟩, fun σ' H' => Pv (i + 1) σ' H', fun σ' H' q => ⟨xs.length - (i + 1), by omega, rfl, hlt, q⟩, fun x H2 hy => ?_⟩
      obtain ⟨T, c, rfl, nT, rfl, hc⟩ := hy
      exact hs i c T σ H' (hc xs hk) p nT
    · have ei : i = xs.length := by omega
      subst ei
      exact .inl ⟨⟨xs, hk, rfl⟩, hd σ H' p⟩
section
variable {X : Cx}
theorem shaped_flatT {xs : List V} (hx : xs.all isF = true) : SeqAt.shaped (.tuple (xs.map datV)) = true := by
  obtain ⟨h1, h2⟩ := lay_flat hx
  simp [SeqAt.shaped, PyData.canLay0, PyData.depth, h1, h2]
def rNeL : R2 := fun x y H Q => ∃ p q xs ys, x = .ref p ∧ y = .ref q ∧ H p = some (.lst xs) ∧ H q = some (.lst ys) ∧ xs.all isF = true ∧ ys.all isF = true ∧ Q (.bl (!decide (xs = ys))) H
def rNeT : R2 := fun x y H Q => ∃ p q xs ys, x = .ref p ∧ y = .ref q ∧ H p = some (.tup xs) ∧ H q = some (.tup ys) ∧ xs.all isF = true ∧ ys.all isF = true ∧ Q (.bl (!decide (xs = ys))) H
def rEqT : R2 := fun x y H Q => ∃ p q xs ys, x = .ref p ∧ y = .ref q ∧ H p = some (.tup xs) ∧ H q = some (.tup ys) ∧ xs.all isF = true ∧ ys.all isF = true ∧ Q (.bl (decide (xs = ys))) H
theorem ne_LL (hu : X.A.units + 64 < cLine) : OpR X (compareOp .NotEq) rNeL := by
  intro pins s σ H x y v u Q I rx ry h
  obtain ⟨p, q, xs, ys, rfl, rfl, hp, hq, fx, fy, k⟩ := h
  refine op_neD hu pins s σ H _ _ v u Q I rx ry ⟨.list (xs.map datV), .list (ys.map datV), .lst (.inl (.inl hp)) (dpAll_dat fx), .lst (.inl (.inl hq)) (dpAll_dat fy), shaped_flat fx, shaped_flat fy, ?_⟩
  rw [PyData.eqv, eqvAll_dat fx fy]
  exact k
theorem ne_TT (hu : X.A.units + 64 < cLine) : OpR X (compareOp .NotEq) rNeT := by
  intro pins s σ H x y v u Q I rx ry h
  obtain ⟨p, q, xs, ys, rfl, rfl, hp, hq, fx, fy, k⟩ := h
  refine op_neD hu pins s σ H _ _ v u Q I rx ry ⟨.tuple (xs.map datV), .tuple (ys.map datV), .tup (.inl (.inl hp)) (dpAll_dat fx), .tup (.inl (.inl hq)) (dpAll_dat fy), shaped_flatT fx, shaped_flatT fy, ?_⟩
  rw [PyData.eqv, eqvAll_dat fx fy]
  exact k
theorem eq_TT (hu : X.A.units + 64 < cLine) : OpR X (compareOp .Eq) rEqT := by
  intro pins s σ H x y v u Q I rx ry h
  obtain ⟨p, q, xs, ys, rfl, rfl, hp, hq, fx, fy, k⟩ := h
  refine op_eqD hu pins s σ H _ _ v u Q I rx ry ⟨.tuple (xs.map datV), .tuple (ys.map datV), .tup (.inl (.inl hp)) (dpAll_dat fx), .tup (.inl (.inl hq)) (dpAll_dat fy), shaped_flatT fx, shaped_flatT fy, ?_⟩
  rw [PyData.eqv, eqvAll_dat fx fy]
  exact k
theorem all_int (ns : List Int) : (ns.map V.int).all isF = true := by simp [isF]
theorem map_int_inj {a b : List Int} : a.map V.int = b.map V.int ↔ a = b := by
  constructor
  · intro h
    induction a generalizing b with
    | nil => cases b with
      | nil => rfl
      | cons y b => cases h
    | cons x a ih => cases b with
      | nil => cases h
      | cons y b =>
        simp only [List.map_cons, List.cons.injEq, V.int.injEq] at h
        rw [h.1, ih h.2]
  · intro h
    rw [h]
/-- len of a list or a tuple -/
def rMin2 : List V → Hp → VK → Prop := fun xs H Q => ∃ i j, xs = [.int i, .int j] ∧ Q (.int (if j < i then j else i)) H
theorem min_2 (hc : X.calm = true) : CallR X (.builtin "min") rMin2 := call_min2 hc
def rAnd255 : R2 := fun x y H Q => ∃ i : Int, x = .int i ∧ y = .int 255 ∧ Q (.int (i % 256)) H
theorem and_255 {X : Cx} : OpR X (binaryOp .BitAnd) rAnd255 := by
  intro pins s σ H x y v u Q I rx ry h
  obtain ⟨i, rfl, rfl, q⟩ := h
  exact op_andM pins s σ H _ _ v u Q I rx ry ⟨i, 8, rfl, rfl, q⟩
def rNonIs : R2 := fun x y H Q => y = .non ∧ Q (.bl (decide (x = .non))) H
theorem op_isNon : OpR X (compareOp .Is) rNonIs := op_isN
def rNonNot : R2 := fun x y H Q => y = .non ∧ Q (.bl (!decide (x = .non))) H
theorem op_notNon : OpR X (compareOp .IsNot) rNonNot := op_notN
def rIns : V → List V → Hp → VK → Prop := fun x vs H Q => ∃ (l : Addr) (xs : List V) (i : Int) (y : V), x = .ref l ∧ vs = [.int i, y] ∧ H l = some (.lst xs) ∧ xs.length < sizeLine ∧ 0 ≤ i ∧ i < 2 ^ 63 ∧ Q .non (upd H l (.lst (xs.take i.toNat ++ [y] ++ xs.drop i.toNat)))
theorem mt_ins : MtR X "list.insert" rIns := mt_insert
open AutoSeq1 in
theorem extend_tuple (l : Addr) (items : Array Value) (n : Nat) (b : Addr) (items2 : Array Value) (n2 : Nat) (dct : Option Addr) (sl : Array (Option Value)) (hs0 : ¬(!items.isEmpty && Builtin.List.listTooLong (items.size + items2.size)) = true) (hs1 : items.size ≤ sizeLine) (hs2 : items.size + items2.size ≤ sizeLine + 1) :
    Meets (Builtin.«list.extend» ⟨[.ref l, .ref b], []⟩) (fun _ R s => s.heap.get? l = some { cls := .type "list", dict := none, data := .seq items n, slots := #[] } ∧ s.heap.get? b = some { cls := .type "tuple", dict := dct, data := .seq items2 n2, slots := sl } ∧ R (.ok (.ret Value.none)) { s with heap := s.heap.update l (Obj.mapSeq fun x => x ++ items2), toks := s.toks }) :=
  .of_wp fun prog w A R s h => by
    obtain ⟨hp, g, d, tk, os⟩ := s
    obtain ⟨hl, hb, h⟩ := h
    have f1 := idx_int
    have f2 := AutoSeq1.sub_tuple_tuple
    have f3 := AutoSeq1.sub_list_list
    have f4 := AutoSeq1.sub_tuple_list
    have f5 := AutoSeq1.sub_list_tuple
    have hz' : (items ++ items2).size ≤ sizeLine + 1 := by rw [Array.size_append]; exact hs2
    wp_walk using (wpAny_updateSeq hl rfl (hz := hs1) (_hz' := hz')), wpAny_loadPart' hl, wpAny_loadPart' hb
    exact ⟨_, rfl, h⟩
def rExtQ : V → List V → Hp → VK → Prop := fun x vs H Q => ∃ l b xs zs, x = .ref l ∧ vs = [.ref b] ∧ H l = some (.lst xs) ∧ Sq H b zs ∧ xs.length + zs.length ≤ sizeLine ∧ Q .non (upd H l (.lst (xs ++ zs)))
theorem mt_extQ : MtM X "list.extend" rExtQ := by
  intro pins s σ H x vs v us Q I rx rv h
  obtain ⟨l, b, xs, zs, rfl, rfl, hH, hB, hz, q⟩ := h
  rcases hB with hB | hB
  · exact mt_extend pins s σ H _ _ v us Q I rx rv ⟨l, b, xs, zs, rfl, rfl, hH, hB, hz, q⟩
  cases rx
  obtain ⟨u, rfl, ru⟩ := rv.one
  cases ru
  obtain ⟨z, its, n, r, hl, e⟩ := I.lstM hH
  obtain ⟨its2, r2, ⟨⟨c2, d2, dt2, sl2⟩, e2, hc2, n2, hd2⟩, hz2⟩ := I.tuple (.inl (.inl hB))
  have hl2 := r2.length
  replace hc2 : c2 = .type "tuple" := hc2
  replace hd2 : dt2 = .seq its2.toArray n2 := hd2
  subst hc2 hd2
  have hsz : its.toArray.size + its2.toArray.size ≤ sizeLine := by rw [List.size_toArray, List.size_toArray]; omega
  have hlong : ¬ (!its.toArray.isEmpty && Builtin.List.listTooLong (its.toArray.size + its2.toArray.size)) = true := by
    rw [notLongL hsz, Bool.and_false]
    exact Bool.false_ne_true
  refine call_meets F.slot_list_extend ⟨_, e, rfl⟩ F.entry_list_extend (F.args_list_extend_2 _ _)
    (extend_tuple l its.toArray n b its2.toArray n2 d2 sl2 hlong (by rw [List.size_toArray]; omega) (by omega)) ⟨e, e2, ?_⟩
  refine ⟨.non, _, I.lset (its' := its ++ its2) hH e (by simp) (r.append r2) ?_, rfl, q⟩
  rw [List.length_append]
  omega
def rSlQ : V → Option Int → Option Int → Hp → VK → Prop := fun x lo hi H Q => ∃ a xs, x = .ref a ∧ Sq H a xs ∧ ∀ p H', Same H H' → Sq H' p (cutV xs lo hi) → Q (.ref p) H'
theorem sl_Q : SlR X rSlQ := by
  intro pins s σ H x v vl vu lo hi sl Q I rx hs pl pu h
  obtain ⟨a, xs, rfl, hx, q⟩ := h
  rcases hx with hx | hx
  · exact sl_L pins s σ H _ v vl vu lo hi sl Q I rx hs pl pu ⟨a, xs, rfl, hx, fun p np => q p _ (same_new np) (.inl upd_same)⟩
  · refine sl_tupA pins s σ H _ v vl vu lo hi sl Q I rx hs pl pu ⟨a, xs, rfl, .inl (.inl hx), fun hw => ?_, fun _ p np => q p _ (same_new np) (.inr upd_same)⟩
    have e : cutV xs lo hi = xs := by
      unfold cutV
      rw [hw.1, hw.2]
      simp
    exact q a H (Same.refl H) (by rw [e]; exact .inr hx)
end
end Fx
/-! Own classes: attribute targets, methods by promise; defs that know that no repr is under way (FnG) -/
namespace Fx
open PySem PySem.Spec PyProof.Rows L2
section
variable {X : Cx} {o : Expr} {to : TE} {f : Str} {pos : Pos}
/-- .. , o.f, .. = value -/
def gFld (K : PySem.W.Frag) (to : TE) (f : Str) : TG := fun v σ H Q => to σ H fun x H1 => ∃ a C dx fs, x = .ref a ∧ H1 a = some (.ins C dx fs) ∧ Cls K C ∧ NoAttr K C f ∧ fs.length < 1000 ∧ Q σ (upd H1 a (.ins C dx (putF f v fs)))
theorem pg_fld (ho : PE X o to) : PG X (.Attribute o f pos) (gFld X.K to f) := by
  refine ⟨fun pins s σ H v u Q I r h => ?_⟩
  rw [assign_Attribute]
  refine wpAny_bind (wpAny_holding (thn (ho.run pins s σ H _ I h) fun ov s1 ⟨x, H1, I1, r1, a, C, dx, fs, ex, ea, c, n, l, q⟩ => ?_))
  subst ex
  obtain rfl : ov = Value.ref a := r1
  refine wpAny_bind (wpAny_standAt (wpAny_bind (wpAny_holding (setattr_ok I1 ea c n l r fun s3 I3 => ?_))))
  exact wpAny_release ⟨σ, _, I3, q⟩
end
/-! ### methods, makers -/
structure CalM (P : Program) (w : World) (K : PySem.W.Frag) (mg : Str → Option Value) (base : Heap) (CX : CXT) (k : Nat) (C : Addr) (m : Str) (ps : List Str) (sp : Sp) : Prop where
  ex : ∃ f fd, Meth K C m f ∧ Binds K fd ps [] ∧ FnOk P w K mg base CX k f fd ps sp
structure CalI (P : Program) (w : World) (K : PySem.W.Frag) (mg : Str → Option Value) (base : Heap) (CX : CXT) (k : Nat) (C : Addr) (ps : List Str) (sp : Sp) : Prop where
  ex : ∃ f fd, Mk K C f ∧ Binds K fd ps [] ∧ FnOk P w K mg base CX k f fd ps sp
section
variable {X : Cx} {x : Str} {C : Addr} {ps : List Str} {sp : Sp} {k : Nat} {CX : CXT} {E : XK} {e : Expr} {es : List Expr} {t : TA} {p pos : Pos}
/-- C(e, ..) -/
theorem pe_mk (M : CalI X.prog X.w X.K X.mg X.base CX k C ps sp) (hr : Room (k + 1) X.A) (hm : X.mg x = some (.ref C)) (hx : Passes CX X E) (ha : PA X (e :: es) t) (hg : Gl X x := by rfl) (hdb : (x == ("__debug__" : Str)) = false := by decide)
    (hs : (e :: es).all nostar = true := by rfl) : PE X (.Call (.Name x p) (e :: es) [] pos) (tMake C sp [] E t) := by
  obtain ⟨f, fd, m, b, F⟩ := M.ex
  simp only [List.all_cons, Bool.and_eq_true] at hs
  exact pe_make m F hr hg hm b .nil hx ha hdb (star_ok hs.1) (back_ok hs.2)
end
/-! ### a method's body -/
abbrev BindQ (x q : Str) (st : Stmt) (ps : List Str) : Prop := ∀ (kV doc pm : Value) (an : Option Addr) (cdv ct : Value) (us : List Value), us.length = ps.length → bindArgs (PySem.W.fnOf x q (defArgs st) (defBody st) (defScope st) .none kV doc pm an cdv ct) ⟨us, []⟩ = pure (ps.zip us)
section
variable {P : Program} {w : World} {K : PySem.W.Frag} {mg : Str → Option Value} {base : Heap} {x qual : Str} {st : Stmt} {N ps : List Str} {k : Nat} {sp : Sp} {f : Addr} {fd : FuncData}
theorem ok0 (F : FunD K x qual (defArgs st) (defBody st) (defScope st) [] [] f fd) (sc : FnScope N ps (defScope st)) (len : ∀ vs H Q E, sp vs H Q E → vs.length = ps.length)
    (hbody : ∀ (f : Addr) (cdv : Value) (A : Around) (outer : List Env) (s : Shared) (H : Hp) (vs : List V) (Q : VK) (E : XK), Room k (A.deeper (envOfC qual (defScope st) s.heap.objs.size f cdv)) → sp vs H Q E →
      ∃ t, PSs (cxOf CX0 P w K mg base N qual (defScope st) f cdv A outer s H E).nox (defBody st) t ∧ t { nx := fun _ H' => Q .non H', rt := Q } (L2.start N vs) H) : FnOk P w K mg base CX0 (k + 1) f fd ps sp := by
  refine F.ok sc len fun cdv A outer s H vs Q E hr hsp => ?_
  obtain ⟨t, h, q⟩ := hbody f cdv A outer s H vs Q E hr hsp
  exact ⟨t, h.nox, q⟩
theorem okX (F : FunD K x qual (defArgs st) (defBody st) (defScope st) [] [] f fd) (sc : FnScope N ps (defScope st)) (len : ∀ vs H Q E, sp vs H Q E → vs.length = ps.length)
    (hbody : ∀ (f : Addr) (cdv : Value) (A : Around) (outer : List Env) (s : Shared) (H : Hp) (vs : List V) (Q : VK) (E : XK), Room k (A.deeper (envOfC qual (defScope st) s.heap.objs.size f cdv)) → sp vs H Q E →
      ∃ t, PSs (cxOf (L2.CX P w) P w K mg base N qual (defScope st) f cdv A outer s H E) (defBody st) t ∧ t { nx := fun _ H' => Q .non H', rt := Q } (L2.start N vs) H) : FnOk P w K mg base (L2.CX P w) (k + 1) f fd ps sp :=
  F.ok sc len fun cdv A outer s H vs Q E hr hsp => hbody f cdv A outer s H vs Q E hr hsp
end
/-! ### no repr is under way: guards = some [] -/
structure FnG (P : Program) (w : World) (K : PySem.W.Frag) (mg : Str → Option Value) (base : Heap) (CX : CXT) (k : Nat) (f : Addr) (fd : FuncData) (ps : List Str) (sp : Sp) : Prop where
  len : ∀ vs H Q E, sp vs H Q E → vs.length = ps.length
  run : ∀ (A : Around) (outer : List Env) (s : Shared) (H : Hp) (args : Args) (us : List Value) (vs : List V) (Q : VK) (E : XK), A.guards = some [] → Room k A → Env0 P w K mg base A outer s H → BindsTo s fd args (ps.zip us) → Vals vs us → sp vs H Q E →
    codeAny (model P w) A (.call (.ref f) args) (CR CX outer P w H s Q E) s
section
variable {P : Program} {w : World} {K : PySem.W.Frag} {mg : Str → Option Value} {base : Heap} {CX : CXT} {k : Nat} {f : Addr} {fd : FuncData} {N ps : List Str} {sp : Sp}
theorem FnG.of (F : FnOk P w K mg base CX k f fd ps sp) : FnG P w K mg base CX k f fd ps sp := ⟨F.len, fun A outer s H args us vs Q E _ hr e0 hb hv hs => F.run A outer s H args us vs Q E hr e0 hb hv hs⟩
/-- a def whose body may use that no repr is under way -/
theorem fn_ofG {name qual : Str} {params : Arguments} {body : List Stmt} {scope : Scope} {dV kV doc pm cdv ct oc : Value} {an od : Option Addr} {osl : Array (Option Value)}
    (lk : K.lookup f = some ⟨oc, od, .func (PySem.W.fnOf name qual params body scope dV kV doc pm an cdv ct), osl⟩) (hcd : PySem.W.codeIn K cdv qual = true) (S : FnScope N ps scope) (len : ∀ vs H Q E, sp vs H Q E → vs.length = ps.length)
    (hbody : ∀ (A : Around) (outer : List Env) (s : Shared) (H : Hp) (vs : List V) (Q : VK) (E : XK), A.guards = some [] → Room k (A.deeper (envOfC qual scope s.heap.objs.size f cdv)) → sp vs H Q E →
      ∃ t, PSs (cxOf CX P w K mg base N qual scope f cdv A outer s H E) body t ∧ t { nx := fun _ H' => Q .non H', rt := Q } (L2.start N vs) H) :
    FnG P w K mg base CX (k + 1) f (PySem.W.fnOf name qual params body scope dV kV doc pm an cdv ct) ps sp := by
  constructor
  · exact len
  intro A outer s H args us vs Q E hG hr e0 hb r hsp
  have hl := len _ _ _ _ hsp
  have kin : K.In s.heap := e0.mod.kin.keeps fun b o e => (e0.bs b o e).1
  have nol : s.heap.NoLimit := e0.mod.nolimit.keeps fun b o e => (e0.bs b o e).1
  have kinds : ∀ y ∈ ps.zip us, scope.names.lookup y.1 = some .local ∨ (scope.names.lookup y.1 = some .cell ∧ ((cellsFrom (s.heap.objs.size + 1) scope.names []).lookup y.1).isSome = true) := by
    rintro ⟨n, v⟩ hy
    rcases S.par n (List.of_mem_zip hy).1 with q | q
    · left; exact q
    · right; exact ⟨q, PySem.W.cellsFrom_some _ _ _ (.inl q)⟩
  refine codeAny_call_function hr.depth (kin _ _ lk) rfl S.co S.gen rfl (PySem.W.codeRec_of kin hcd) (hb _ _ _ _ (wpAny_newFunctionEnv_cells S.kind kinds fun env he s1 x => ?_))
  subst he
  refine ⟨nol.keeps x.toInCall.keep, codeAny_func ?_⟩
  obtain ⟨t, ht, hq⟩ := hbody A outer s H vs Q E hG (hr.deeper _) hsp
  refine wpAny_mono (ht.run [] s1 (L2.start N vs) H _ (inv_start S hr.hd e0 hl r x) hq) (fun fl s' hs => ?_) fun e s' hs => hs
  have done : ∀ {σ' : L2.St} {H' : Hp} {v : V} {u : Value}, Inv (cxOf CX P w K mg base N qual scope f cdv A outer s H E) [] σ' H' s' → RelV v u → Q v H' → CE outer P w H s Q u s' := by
    intro σ' H' v u J rv q
    exact ⟨v, H', J.os, J.bare, J.base, J.hok, rv, q⟩
  cases fl with
  | ret u => obtain ⟨v, σ', H', J, rv, q⟩ := hs; exact done J rv q
  | next => obtain ⟨σ', H', J, q⟩ := hs; exact done (v := V.non) (u := Value.none) J rfl q
  | brk => obtain ⟨_, _, _, q⟩ := hs; exact q.elim
  | cont => obtain ⟨_, _, _, q⟩ := hs; exact q.elim
end
structure CalG (P : Program) (w : World) (K : PySem.W.Frag) (mg : Str → Option Value) (base : Heap) (CX : CXT) (k : Nat) (x : Str) (ps : List Str) (sp : Sp) : Prop where
  ex : ∃ f fd, mg x = some (.ref f) ∧ PySem.W.keepIn K (.ref f) = true ∧ Binds K fd ps [] ∧ FnG P w K mg base CX k f fd ps sp
section
variable {P : Program} {w : World} {K : PySem.W.Frag} {mg : Str → Option Value} {base : Heap} {x : Str} {st : Stmt} {N ps : List Str} {k : Nat} {sp : Sp} {f : Addr} {fd : FuncData}
theorem lawG (F : FunD K x x (defArgs st) (defBody st) (defScope st) [] [] f fd) (sc : FnScope N ps (defScope st)) (len : ∀ vs H Q E, sp vs H Q E → vs.length = ps.length)
    (hbody : ∀ (f : Addr) (cdv : Value) (A : Around) (outer : List Env) (s : Shared) (H : Hp) (vs : List V) (Q : VK) (E : XK), A.guards = some [] → Room k (A.deeper (envOfC x (defScope st) s.heap.objs.size f cdv)) → sp vs H Q E →
      ∃ t, PSs (cxOf CX0 P w K mg base N x (defScope st) f cdv A outer s H E).nox (defBody st) t ∧ t { nx := fun _ H' => Q .non H', rt := Q } (L2.start N vs) H) : FnG P w K mg base CX0 (k + 1) f fd ps sp := by
  obtain ⟨oc, od, dV, kV, doc, pm, an, cdv, ct, osl, rfl, lk, hcd, _, _⟩ := F.ex
  refine fn_ofG lk hcd sc len fun A outer s H vs Q E hG hr hsp => ?_
  obtain ⟨t, h, q⟩ := hbody f cdv A outer s H vs Q E hG hr hsp
  exact ⟨t, h.nox, q⟩
theorem Src.calG (S : Src K mg x st) (sc : FnScope N ps (defScope st)) (bn : BindP x st ps) (len : ∀ vs H Q E, sp vs H Q E → vs.length = ps.length)
    (hbody : ∀ (f : Addr) (cdv : Value) (A : Around) (outer : List Env) (s : Shared) (H : Hp) (vs : List V) (Q : VK) (E : XK), A.guards = some [] → Room k (A.deeper (envOfC x (defScope st) s.heap.objs.size f cdv)) → sp vs H Q E →
      ∃ t, PSs (cxOf CX0 P w K mg base N x (defScope st) f cdv A outer s H E).nox (defBody st) t ∧ t { nx := fun _ H' => Q .non H', rt := Q } (L2.start N vs) H) : CalG P w K mg base CX0 (k + 1) x ps sp := by
  obtain ⟨f, fd, g, F⟩ := S
  exact ⟨f, fd, g, F.kp, F.bindsN bn, lawG F sc len hbody⟩
end
section
variable {X : Cx} {x : Str} {ps : List Str} {sp : Sp} {k : Nat} {CX : CXT} {E : XK} {e : Expr} {es : List Expr} {t : TA} {p pos : Pos}
/-- f(e, ..) where no repr is under way -/
theorem pe_calG (C : CalG X.prog X.w X.K X.mg X.base CX k x ps sp) (hG : X.A.guards = some []) (hr : Room k X.A) (hx : Passes CX X E) (ha : PA X (e :: es) t) (hg : Gl X x := by rfl) (hdb : (x == ("__debug__" : Str)) = false := by decide)
    (hs : (e :: es).all nostar = true := by rfl) : PE X (.Call (.Name x p) (e :: es) [] pos) (tCall sp [] E t) := by
  obtain ⟨f, fd, g, kp, b, F⟩ := C.ex
  simp only [List.all_cons, Bool.and_eq_true] at hs
  refine ⟨fun pins s σ H Q I h => wpAny_Call_Name_kw (ld_glob I hg g ?_ hdb)⟩
  refine PySem.W.callWith_K (h₀ := X.base) I.ok.mod.kin kp (thn (ha.run pos pins s σ H _ I h) fun us s1 ⟨vs, H1, I1, r, q⟩ => ⟨I1.kIn, ?_⟩) (star_ok hs.1) (back_ok hs.2)
  have q2 : sp vs H1 Q E := by
    have q' : sp (vs ++ []) H1 Q E := q
    rw [List.append_nil] at q'
    exact q'
  have hl : us.length = ps.length := by rw [← r.length]; exact F.len _ _ _ _ q2
  have hb : BindsTo s1 fd ⟨us, []⟩ (ps.zip us) := by
    have := b s1 us I1.kIn (by rw [List.append_nil]; exact hl)
    rw [List.append_nil] at this
    exact this
  refine wpAny_call (codeAny_mono (F.run X.A X.stack s1 H1 ⟨us, []⟩ us vs Q E hG hr I1.env0 hb r q2) fun r s' hq => ?_)
  cases r with
  | error e => exact hx pins σ H1 s1 e s' I1 hq
  | ok fl => cases fl with
    | ret u => exact I1.after hq
    | next => exact hq.elim
    | brk => exact hq.elim
    | cont => exact hq.elim
end
/-! ### repr of data -/
def rRepr (K : PySem.W.Frag) : List V → Hp → VK → Prop := fun xs H Q => ∃ (x : V) (d : PyData), xs = [x] ∧ Dp K H x d ∧ d.showable = true ∧ d.hasDict = false ∧ d.depth ≤ 50 ∧ d.shown.length ≤ sizeLine ∧ Q (.str d.shown) H
theorem call_reprD {X : Cx} (hG : X.A.guards = some []) (hu : X.A.units + 64 < cLine) : CallR X (.builtin "repr") (rRepr X.K) := by
  intro pins s σ H xs us Q I rx h
  obtain ⟨x, d, rfl, hd, sh, nd, dp, hz, q⟩ := h
  obtain ⟨u, rfl, ru⟩ := rx.one
  obtain ⟨as, rd⟩ := Dp.reads I d x u hd ru
  have fin : ∀ h' tk0 tk, (∀ b o, s.heap.get? b = some o → h'.get? b = some o) → EP X pins σ Q (.str d.shown tk0) { s with heap := h', toks := tk } := fun h' tk0 tk hk => ⟨.str d.shown, H, I.kept hk, ⟨_, rfl⟩, q⟩
  have tok : ∀ tk0 tk, EP X pins σ Q (.str d.shown tk0) { s with toks := tk } := fun tk0 tk => ⟨.str d.shown, H, I.tok _, ⟨_, rfl⟩, q⟩
  cases hd with
  | non => cases ru; exact P.repr_of_none (tok _ _)
  | bl b => cases ru; exact P.repr_of_bool (by cases b <;> exact tok _ _)
  | int i =>
    obtain ⟨t, rfl⟩ := ru
    exact P.repr_of_int (by simpa [PyData.showable] using sh) (tok _ _)
  | str z =>
    obtain ⟨t, rfl⟩ := ru
    exact P.repr_of_str (tok _ _) hz
  | lst h1 h2 =>
    cases ru
    exact repr_of_reads' rd sh (fun z => by rw [nd] at z; cases z) hG (by omega) (fun b o e => e) (fun h' u tk hk => fin h' u tk hk) hz
  | tup h1 h2 =>
    cases ru
    exact repr_of_reads' rd sh (fun z => by rw [nd] at z; cases z) hG (by omega) (fun b o e => e) (fun h' u tk hk => fin h' u tk hk) hz
theorem call_reprK {X : Cx} {K : PySem.W.Frag} (hK : X.K = K) (hG : X.A.guards = some []) (hu : X.A.units + 64 < cLine) : CallR X (.builtin "repr") (rRepr K) := by
  subst hK
  exact call_reprD hG hu
end Fx
/-! A law's end where the law's def knows that no repr is under way -/
namespace Fx
open PySem PySem.Spec PyProof.Rows L2
section
variable {P : Program} {w : World} {K : PySem.W.Frag} {mg mb : Str → Option Value} {CX : CXT} {k : Nat} {fa a : Addr} {fd : FuncData} {x : Str} {sp : Sp} {z : Shared} {vs : List Value} {ns : List Int}
/-- the law's call from a heap that tracks the script at most -/
theorem endG_from {H : Hp} (KX : K.In z.heap) (hns : z.heap.Ns mainGlobals mg) (hb : z.heap.Ns builtinsNs mb) (hbb : ∀ x : Str, x ≠ "__name__" → mb x = bootBuiltins x) (hlim : z.heap.NoLimit) (hg : z.gens = #[])
    (ha : z.heap.get? a = some { cls := .type "list", data := .seq vs.toArray }) (hr : Room k callerA) (F : ∀ base : Heap, K.In base → base.Ns mainGlobals mg → FnG P w K mg base CX k fa fd [x] sp)
    (hbind : ∀ (s : Shared) (u : Value), BindsTo s fd ⟨[u], []⟩ [(x, u)]) (hCX : ∀ H e s', CX [] H z (fun _ _ _ => False) e s' → False) (hO : Only H) (hp : sp [.ref a] H (fun v _ => v = .bl true) fun _ _ _ => False)
    (hok : HOk P w H z.heap) (only : ∀ b, H b ≠ none → b = a) (hK : H a ≠ none → K.lookup a = none) :
    codeAny (model P w) callerA (.call (.ref fa) ⟨[.ref a], []⟩) (fun r s' => r = .ok (.ret (.bool true)) ∧ OldK z.heap s'.heap ∧ s'.os = z.os ∧ AllBare s'.gens) z := by
  -- what is not the script is not tracked
  have free : ∀ {b : Addr}, b ≠ a → H b = none := by
    intro b hn
    cases q : H b with
    | none => rfl
    | some u => exact absurd (only b (by rw [q]; intro y; cases y)) hn
  have keepNs : ∀ {b : Addr} {m : Str → Option Value}, z.heap.Ns b m → (hidT z.heap H).Ns b m := by
    rintro b m ⟨o, es, ep, e, d, r⟩
    refine ⟨o, es, ep, hidT_get e (free ?_), d, r⟩
    intro q
    rw [q, ha] at e
    cases e
    cases (show Data.seq vs.toArray _ = Data.dict es ep from d)
  have keepK : K.In (hidT z.heap H) := by
    intro b o e
    refine hidT_get (KX b o e) ?_
    cases q : H b with
    | none => rfl
    | some u =>
      have eb := only b (by rw [q]; intro y; cases y)
      rw [eb] at e q
      rw [hK (by rw [q]; intro y; cases y)] at e
      cases e
  obtain ⟨mc, l1, l2⟩ := hlim
  have hM : Mod K mg (hidT z.heap H) := ⟨keepK, keepNs hns, ⟨mb, keepNs hb, hbb⟩, ⟨mc, keepNs l1, l2⟩⟩
  have none_ : ∀ b : Addr, b ∉ ([] : List Addr) := fun b h => by cases h
  have e0 : Env0 P w K mg (hidT z.heap H) callerA [] z H := ⟨rfl, hM, fun b o e => of_hidT e, Nat.le_of_eq (hidT_size _ _), trivial, fun b q => absurd (show b ∈ ([] : List Addr) from q) (none_ b), hok, .of_eq hg⟩
  have run := (F _ keepK (keepNs hns)).run callerA [] z H ⟨[.ref a], []⟩ [.ref a] [.ref a] _ _ rfl hr e0 (hbind z (.ref a)) (.cons rfl .nil) hp
  refine codeAny_mono run fun r s' h => ?_
  match r, h with
  | .error e, h => exact (hCX H e s' h).elim
  | .ok .next, h => exact h.elim
  | .ok .brk, h => exact h.elim
  | .ok .cont, h => exact h.elim
  | .ok (.ret u), h =>
    obtain ⟨v, H', os, bare, un, hok', ru, qv⟩ := h
    have ev : v = .bl true := qv
    rw [ev] at ru
    obtain rfl : u = Value.bool true := ru
    refine ⟨rfl, OldK.of_keep fun b o e => ?_, os, bare⟩
    rcases hO b with f | ⟨ob, xs, f⟩
    · exact un.keep b o e f (by intro y; exact absurd (show b ∈ ([] : List Addr) from y) (none_ b)) (by simp)
    · have e1 := (hok b _ f).1
      have e2 := (hok' b _ (un.frzs b ob _ f)).1
      rw [e] at e1
      cases e1
      exact e2
end
theorem walk_ofG {l : PySem.W.OpenLaw} {n k : Nat} {q : Program} {loose : List Str} {XP : (Str → Option Value) → Heap → Prop} {YP : World → Heap → Prop} {d : DefRec} {x : Str}
    (hn : l.most = some n) (hn2 : n ≤ sizeLine) (hdf : d.params.defaults = []) (hr : Room k callerA)
    (F : ∀ (w : World) (mg : Str → Option Value) (fa : Addr) (h : Heap), YP w h → h.Ns mainGlobals mg → mg d.name = some (.ref fa) →
      ∃ (K : PySem.W.Frag) (fd : FuncData) (sp : Sp), K.In h ∧ (∀ (s : Shared) (u : Value), BindsTo s fd ⟨[u], []⟩ [(x, u)]) ∧
        (∀ (H : Hp) (a : Addr) (ns : List Int), ns.length ≤ n → SqL K H a (ns.map V.int) → sp [.ref a] H (fun v _ => v = .bl true) fun _ _ _ => False) ∧
        ∀ base : Heap, K.In base → base.Ns mainGlobals mg → FnG l.prog w K mg base CX0 k fa fd [x] sp) :
    PySem.W.WalkO q loose XP YP l.row.toRowW d [] (fun f vs => PySem.call f vs) := by
  refine Att.attach_call hn hdf fun w s₀ z mg mb fa o pm cd doc a vs ns G Y ho hd hcd hmg hobj hints hlen hg => ?_
  obtain ⟨K, fd, sp, KX, hb, hsp, hF⟩ := F w mg fa _ Y G.T.g hmg
  have rv := vals_ints hints
  have lv := hints.length
  have hl : ns.length ≤ sizeLine := Nat.le_trans hlen hn2
  have go : ∀ H : Hp, Only H → SqL K H a (ns.map V.int) → HOk l.prog w H z.heap → (∀ b, H b ≠ none → b = a) → (H a ≠ none → K.lookup a = none) → _ := fun H hO hS hok only hK =>
    endG_from KX G.T.g G.T.b G.T.builtins G.T.nolimit hg hobj hr hF hb (fun _ _ _ y => y) hO (hsp H a ns hlen hS) hok only hK
  cases hk : K.lookup a with
  | some o =>
    have e := KX a o hk
    rw [hobj] at e
    cases e
    have hS : SqL K (fun _ => none) a (ns.map V.int) := .inr ⟨_, vs.toArray, _, hk, rfl, rfl, rfl, (by rw [List.size_toArray, lv]; exact hl), by simpa using rv⟩
    exact go (fun _ => none) (fun _ => .inl rfl) hS (fun b u y => by cases (show (none : Option HO) = some u from y)) (fun b y => absurd rfl y) (fun y => absurd rfl y)
  | none =>
    let o0 : Obj := { cls := .type "list", data := .seq vs.toArray }
    let H0 : Hp := fun b => if b = a then some (.frz o0 (.lst (ns.map V.int))) else none
    have at_ : H0 a = some (.frz o0 (.lst (ns.map V.int))) := if_pos rfl
    have off : ∀ {b : Addr}, b ≠ a → H0 b = none := fun h => if_neg h
    refine go H0 (fun b => ?_) (.inl (.inr ⟨o0, at_⟩)) (fun b u y => ?_) (fun b y => ?_) fun _ => hk
    · by_cases e : b = a
      · rw [e]
        exact .inr ⟨_, _, at_⟩
      · exact .inl (off e)
    · by_cases e : b = a
      · rw [e, at_] at y
        cases y
        rw [e]
        exact ⟨hobj, by rw [List.length_map]; exact hl, vs, _, rv, hobj⟩
      · rw [off e] at y
        cases y
    · by_cases e : b = a
      · exact e
      · exact absurd (off e) y
end Fx
/-! text.ljust(n, sign), sign.join(a tracked list), is True, a module's tuple of tuples -/
namespace Fx
open PySem PySem.Spec PyProof.Rows L2
section
variable {X : Cx}
def rLj : V → List V → Hp → VK → Prop := fun x xs H Q => ∃ (a f : Str) (i : Int), x = .str a ∧ xs = [.int i, .str f] ∧ PadOk i = true ∧ f.length = 1 ∧ Q (.str (Txt.ljustF a i (f.cps.getD 0 0))) H
theorem mt_lj : MtR X "str.ljust" rLj := by
  intro pins s σ H x xs v us Q I rx rs h
  obtain ⟨a, f, i, rfl, rfl, hp, hf, q⟩ := h
  obtain ⟨t, rfl⟩ := rx
  obtain ⟨u1, u2, rfl, r1, r2⟩ := rs.two
  obtain ⟨t1, rfl⟩ := r1
  obtain ⟨t2, rfl⟩ := r2
  exact ljust_fill hp hf fun t' k => ⟨.str _, H, I.tok _, ⟨_, rfl⟩, q⟩
def rJn : V → List V → Hp → VK → Prop := fun x xs H Q => ∃ (a : Str) (p : Addr) (ys : List Str), x = .str a ∧ xs = [.ref p] ∧ H p = some (.lst (ys.map V.str)) ∧ (ys.map (·.length)).sum + ys.length * a.length ≤ 16777216 ∧ Q (.str (Txt.join a ys)) H
theorem mt_jn : MtR X "str.join" rJn := by
  intro pins s σ H x xs v us Q I rx rs h
  obtain ⟨a, p, ys, e1, e2, hp, hz, q⟩ := h
  exact mt_join pins s σ H x xs v us Q I rx rs ⟨a, p, ys, e1, e2, .inl (.inl (.inl hp)), hz, q⟩
def rIsBl : R2 := fun x y H Q => ∃ a b, x = .bl a ∧ y = .bl b ∧ Q (.bl (decide (a = b))) H
theorem op_isBo : OpR X (compareOp .Is) rIsBl := op_is_bl
def rNoBl : R2 := fun x y H Q => ∃ a b, x = .bl a ∧ y = .bl b ∧ Q (.bl (!decide (a = b))) H
theorem op_noBo : OpR X (compareOp .IsNot) rNoBl := op_isnot_bl
end
/-! ### a module's tuple of tuples of numbers -/
def tupI (K : PySem.W.Frag) (v : Value) (r : List Int) : Bool := match v with
  | .ref a => (match K.lookup a with
    | some ⟨.type c, _, .seq its _, _⟩ => decide (c = "tuple") && (decide (its.size ≤ sizeLine) && He.relAll (r.map V.int) its.toList)
    | _ => false)
  | _ => false
def tupIs (K : PySem.W.Frag) : List Value → List (List Int) → Bool
  | [], [] => true
  | v :: vs, r :: rs => tupI K v r && tupIs K vs rs
  | _, _ => false
def tupsB (K : PySem.W.Frag) (x : Str) (rows : List (List Int)) : Bool := match K.lookup (He.ga K x) with
  | some ⟨.type c, _, .seq its _, _⟩ => decide (c = "tuple") && (decide (its.size ≤ sizeLine) && tupIs K its.toList rows)
  | _ => false
theorem tupI_ok {K : PySem.W.Frag} {v : Value} {r : List Int} (h : tupI K v r = true) : ∃ a, v = .ref a ∧ ∀ H, SqT K H a (r.map V.int) := by
  cases v with
  | ref a =>
    refine ⟨a, rfl, fun H => ?_⟩
    unfold tupI at h
    dsimp only at h
    cases q : K.lookup a with
    | none => rw [q] at h; cases h
    | some o =>
      obtain ⟨oc, od, dt, osl⟩ := o
      rw [q] at h
      cases oc with
      | type c =>
        cases dt with
        | seq its n =>
          obtain ⟨h1, h2⟩ := He.ba (show (decide (c = "tuple") && (decide (its.size ≤ sizeLine) && He.relAll (r.map V.int) its.toList)) = true from h)
          obtain ⟨h3, h4⟩ := He.ba h2
          exact .inr ⟨_, its, n, q, congrArg Value.type (of_decide_eq_true h1), rfl, of_decide_eq_true h3, He.relAll_ok h4⟩
        | _ => cases h
      | _ => cases dt <;> cases h
  | _ => cases h
theorem tupIs_ok {K : PySem.W.Frag} : ∀ {vs : List Value} {rs : List (List Int)}, tupIs K vs rs = true → ∃ as : List Addr, Vals (as.map V.ref) vs ∧ ∀ (i : Nat) (r : List Int), rs[i]? = some r → ∃ a, as[i]? = some a ∧ ∀ H, SqT K H a (r.map V.int)
  | [], [], _ => ⟨[], .nil, fun i r h => by simp at h⟩
  | v :: vs, r :: rs, h => by
    obtain ⟨h1, h2⟩ := He.ba (show (tupI K v r && tupIs K vs rs) = true from h)
    obtain ⟨a, rfl, ha⟩ := tupI_ok h1
    obtain ⟨as, hv, hr⟩ := tupIs_ok h2
    refine ⟨a :: as, .cons rfl hv, fun i r' hi => ?_⟩
    cases i with
    | zero =>
      have e : r = r' := by simpa using hi
      exact ⟨a, rfl, e ▸ ha⟩
    | succ i =>
      obtain ⟨b, hb, hs⟩ := hr i r' (by simpa using hi)
      exact ⟨b, by simpa using hb, hs⟩
  | [], _ :: _, h => by cases h
  | _ :: _, [], h => by cases h
theorem tupsB_ok {K : PySem.W.Frag} {x : Str} {rows : List (List Int)} (h : tupsB K x rows = true) : ∃ as : List Addr, (∀ H, SqT K H (He.ga K x) (as.map V.ref)) ∧ ∀ (i : Nat) (r : List Int), rows[i]? = some r → ∃ a, as[i]? = some a ∧ ∀ H, SqT K H a (r.map V.int) := by
  unfold tupsB at h
  cases q : K.lookup (He.ga K x) with
  | none => rw [q] at h; cases h
  | some o =>
    obtain ⟨oc, od, dt, osl⟩ := o
    rw [q] at h
    cases oc with
    | type c =>
      cases dt with
      | seq its n =>
        obtain ⟨h1, h2⟩ := He.ba (show (decide (c = "tuple") && (decide (its.size ≤ sizeLine) && tupIs K its.toList rows)) = true from h)
        obtain ⟨h3, h4⟩ := He.ba h2
        obtain ⟨as, hv, hr⟩ := tupIs_ok h4
        exact ⟨as, fun H => .inr ⟨_, its, n, q, congrArg Value.type (of_decide_eq_true h1), rfl, of_decide_eq_true h3, hv⟩, hr⟩
      | _ => cases h
    | _ => cases dt <;> cases h
/-! ### loops over a text's signs -/
theorem for_S {z : Str} {g : TG} {tb : TS} {D : Ends} {σ : L2.St} {H : Hp} (Pv : Nat → L2.St → Hp → Prop) (h0 : Pv 0 σ H)
    (hs : ∀ i c σ H, z.cps.toList[i]? = some c → Pv i σ H → g (.str ⟨#[c]⟩) σ H fun σ2 H2 => tb { D with nx := Pv (i + 1), ct := Pv (i + 1), bk := D.nx } σ2 H2) (hd : ∀ σ H, Pv z.cps.toList.length σ H → D.nx σ H) :
    ∃ W : Nat → Nat → L2.St → Hp → Prop, (∃ m, W 0 m σ H) ∧ ∀ i m σ H, W i m σ H →
      ((Its z).stop i H ∧ D.nx σ H) ∨ ((Its z).go i H ∧ ∃ N : L2.St → Hp → Prop, (∀ σ' H', N σ' H' → ∃ m', m' < m ∧ W (i + 1) m' σ' H') ∧ ∀ x H', (Its z).yld i H x H' → g x σ H' fun σ2 H2 => tb { D with nx := N, ct := N, bk := D.nx } σ2 H2) := by
  refine ⟨fun i m σ H => m = z.cps.size - i ∧ i ≤ z.cps.size ∧ Pv i σ H, ⟨_, rfl, Nat.zero_le _, h0⟩, ?_⟩
  rintro i m σ H ⟨rfl, hi, p⟩
  by_cases hlt : i < z.cps.size
  · refine .inr ⟨hlt, fun σ' H' => Pv (i + 1) σ' H', fun σ' H' q => ⟨z.cps.size - (i + 1), by omega, rfl, hlt, q⟩, fun x H' hy => ?_⟩
    obtain ⟨rfl, c, hc, rfl⟩ := hy
    exact hs i c σ H' (by rw [Array.getElem?_toList]; exact hc) p
  · have ei : i = z.cps.size := by omega
    subst ei
    exact .inl ⟨Nat.le_refl _, hd σ H (by rw [Array.length_toList]; exact p)⟩
theorem lc_S {z : Str} {g : TG} {tt : TT} {te : TE} {vs : List Nat} {σ : L2.St} {H1 : Hp} {D : Addr} {Qd : Hp → Prop} (Pv : Nat → Hp → Prop) (h0 : Pv 0 (upd H1 D (.lst [])))
    (hs : ∀ i c H, z.cps.toList[i]? = some c → Pv i H → g (.str ⟨#[c]⟩) (wipe σ vs) H fun σ2 H2 => wipe σ2 vs = wipe σ vs ∧ tt σ2 H2 fun b H3 =>
      if b = true then te σ2 H3 fun y H4 => ∃ acc, H4 D = some (.lst acc) ∧ acc.length < sizeLine ∧ Pv (i + 1) (upd H4 D (.lst (acc ++ [y]))) else Pv (i + 1) H3) (hd : ∀ H, Pv z.cps.toList.length H → Qd H) :
    ∃ W : Nat → Nat → Hp → Prop, (∃ m, W 0 m (upd H1 D (.lst []))) ∧ ∀ i m H, W i m H →
      ((Its z).stop i H ∧ Qd H) ∨ ((Its z).go i H ∧ ∃ Nx : Hp → Prop, (∀ H', Nx H' → ∃ m', m' < m ∧ W (i + 1) m' H') ∧ ∀ x H', (Its z).yld i H x H' → g x (wipe σ vs) H' fun σ2 H2 => wipe σ2 vs = wipe σ vs ∧ tt σ2 H2 fun b H3 =>
        if b = true then te σ2 H3 fun y H4 => ∃ acc, H4 D = some (.lst acc) ∧ acc.length < sizeLine ∧ Nx (upd H4 D (.lst (acc ++ [y]))) else Nx H3) := by
  refine ⟨fun i m H => m = z.cps.size - i ∧ i ≤ z.cps.size ∧ Pv i H, ⟨_, rfl, Nat.zero_le _, h0⟩, ?_⟩
  rintro i m H ⟨rfl, hi, p⟩
  by_cases hlt : i < z.cps.size
  · refine .inr ⟨hlt, fun H' => Pv (i + 1) H', fun H' q => ⟨z.cps.size - (i + 1), by omega, rfl, hlt, q⟩, fun x H' hy => ?_⟩
    obtain ⟨rfl, c, hc, rfl⟩ := hy
    exact hs i c H' (by rw [Array.getElem?_toList]; exact hc) p
  · have ei : i = z.cps.size := by omega
    subst ei
    exact .inl ⟨Nat.le_refl _, hd H (by rw [Array.length_toList]; exact p)⟩
theorem mem_sign {c : Nat} {z : Str} {p : Prop} (h : (c ∈ z.cps.toList) = p) : (c ∈ z.cps.toList) = p := h
/-- ''.join -/
theorem join0_list : ∀ ys : List Str, (Txt.join "" ys).cps.toList = (ys.map fun y => y.cps.toList).flatten
  | [] => rfl
  | y :: ys => by
    have key : ∀ (l : List Str) (acc : Array Nat), (l.foldl (fun acc p => acc ++ (("" : Str)).cps ++ p.cps) acc).toList = acc.toList ++ (l.map fun y => y.cps.toList).flatten := by
      intro l
      induction l with
      | nil => intro acc; simp
      | cons a l ih =>
        intro acc
        rw [List.foldl_cons, ih]
        have e : (("" : Str)).cps = #[] := rfl
        rw [e]
        simp
    exact key ys y.cps
mutual
theorem dp_mono {K : PySem.W.Frag} {H H' : Hp} (hl : ∀ a xs, SqL K H a xs → SqL K H' a xs) (ht : ∀ a xs, SqT K H a xs → SqT K H' a xs) : ∀ (d : PyData) (v : V), Dp K H v d → Dp K H' v d
  | .none, _, h => by cases h; exact .non
  | .bool b, _, h => by cases h; exact .bl b
  | .int i, _, h => by cases h; exact .int i
  | .str x, _, h => by cases h; exact .str x
  | .list ds, _, h => by
    cases h with
    | lst hs ha => exact .lst (hl _ _ hs) (dp_monoAll hl ht ds _ ha)
  | .tuple ds, _, h => by
    cases h with
    | tup hs ha => exact .tup (ht _ _ hs) (dp_monoAll hl ht ds _ ha)
  | .dict _, _, h => by cases h
theorem dp_monoAll {K : PySem.W.Frag} {H H' : Hp} (hl : ∀ a xs, SqL K H a xs → SqL K H' a xs) (ht : ∀ a xs, SqT K H a xs → SqT K H' a xs) : ∀ (ds : List PyData) (vs : List V), DpAll K H vs ds → DpAll K H' vs ds
  | [], _, h => by cases h; exact .nil
  | d :: ds, _, h => by
    cases h with
    | cons h1 h2 => exact .cons (dp_mono hl ht d _ h1) (dp_monoAll hl ht ds _ h2)
end
theorem rd_keep {H H' : Hp} {b a : Addr} {o : HO} (hk : ∀ a o, a ≠ b → H a = some o → H' a = some o) (hb : ∃ kvs, H b = some (.dK kvs)) (no : ∀ kvs, o ≠ .dK kvs) (h : Rd H a o) : Rd H' a o := by
  obtain ⟨kvs, hb⟩ := hb
  rcases h with h | ⟨ob, h⟩
  · refine .inl (hk a o (fun e => ?_) h)
    rw [e, hb] at h
    exact no kvs (Option.some.inj h).symm
  · refine .inr ⟨ob, hk a _ (fun e => ?_) h⟩
    rw [e, hb] at h
    cases h
theorem dp_same {K : PySem.W.Frag} {H H' : Hp} {d : PyData} {v : V} (s : Same H H') (h : Dp K H v d) : Dp K H' v d := by
  refine dp_mono (fun _ _ q => s.seq q) (fun a xs q => ?_) d v h
  rcases q with (q | ⟨ob, q⟩) | q
  · exact .inl (.inl (s _ _ q))
  · exact .inl (.inr ⟨ob, s _ _ q⟩)
  · exact .inr q
theorem dp_kp {K : PySem.W.Frag} {b : Addr} {H H' : Hp} {d : PyData} {v : V} (B : Bag H b) (k : Kp b H H') (h : Dp K H v d) : Dp K H' v d := by
  refine dp_mono (fun a xs q => ?_) (fun a xs q => ?_) d v h
  · rcases q with q | q
    · exact .inl (rd_keep k.keep B.some (fun _ e => by cases e) q)
    · exact .inr q
  · rcases q with q | q
    · exact .inl (rd_keep k.keep B.some (fun _ e => by cases e) q)
    · exact .inr q
/-- data that repr shows -/
structure Shw (K : PySem.W.Frag) (H : Hp) (v : V) (d : PyData) : Prop where
  dp : Dp K H v d
  sh : d.showable = true
  nd : d.hasDict = false
  dep : d.depth ≤ 50
  len : d.shown.length ≤ sizeLine
  ok : isF (.str d.shown) = true
theorem Shw.same {K : PySem.W.Frag} {H H' : Hp} {d : PyData} {v : V} (s : Same H H') (h : Shw K H v d) : Shw K H' v d := ⟨dp_same s h.dp, h.sh, h.nd, h.dep, h.len, h.ok⟩
theorem Shw.kp {K : PySem.W.Frag} {b : Addr} {H H' : Hp} {d : PyData} {v : V} (B : Bag H b) (k : Kp b H H') (h : Shw K H v d) : Shw K H' v d := ⟨dp_kp B k h.dp, h.sh, h.nd, h.dep, h.len, h.ok⟩
end Fx
/-! x == y by an own __eq__; own methods and makers in a try's body; a def that is given the caught error -/
namespace Fx
open PySem PySem.Spec PyProof.Rows L2
section
variable {X : Cx} {CX : CXT} {k : Nat} {C : Addr} {ps : List Str} {sp : Sp} {E : XK}
/-- x == y, both of the class at C -/
def rOwnEq (C : Addr) (sp : Sp) (E : XK) : R2 := fun x y H Q => ∃ a b dx dy fs gs, x = .ref a ∧ y = .ref b ∧ H a = some (.ins C dx fs) ∧ H b = some (.ins C dy gs) ∧ sp [.ref a, .ref b] H (fun v H' => ∃ r, v = .bl r ∧ Q (.bl r) H') E
theorem op_eqOwn (M : CalM X.prog X.w X.K X.mg X.base CX k C "__eq__" ps sp) (hr : Room k X.A) (hx : Passes CX X E) : OpR X (compareOp .Eq) (rOwnEq C sp E) := by
  intro pins s σ H x y v u Q I rx ry hq
  obtain ⟨f, fd, m, b, F⟩ := M.ex
  obtain ⟨a, c, dx, dy, fs, gs, rfl, rfl, ha, hc, hsp⟩ := hq
  cases rx
  cases ry
  obtain ⟨mA, J, _⟩ := ins_get I.hok ha
  obtain ⟨mB, J', _⟩ := ins_get I.hok hc
  obtain ⟨od, J, _⟩ := J.look
  obtain ⟨od', J', _⟩ := J'.look
  obtain ⟨mm, hF⟩ := I.fr
  show wpAny (model X.prog X.w) X.A (richCompare .Eq (.ref a) (.ref c)) (EP X pins σ Q) X.xe s
  refine PySem.W.cmp_K (op := .Eq) (tb := .ref C) hr.units0 hF I.ok.mod.kin J J'.type (by simp [PySem.W.notFirst]) m.at_ m.fn ?_
  refine wpAny_mono (run_fn (us := [.ref a, .ref c]) (vs := [.ref a, .ref c]) (ds := []) (dvs := []) (Q := fun v H' => ∃ r, v = .bl r ∧ Q (.bl r) H') F hr b .nil hx I (.cons rfl (.cons rfl .nil)) hsp) (fun v s' hv => ?_) fun _ _ z => z
  obtain ⟨z, H', I', rz, r, rfl, q⟩ := hv
  cases rz
  exact ⟨.bl r, H', I', rfl, q⟩
end
/-! ### in a try's body -/
section
variable {X : Cx} {k : Nat} {f C : Addr} {fd : FuncData} {ps : List Str} {sp : Sp} {W : WX} {x m : Str} {p pos apos : Pos} {e o : Expr} {es : List Expr} {ta : TE} {t : TA}
def tMethT (C : Addr) (m : Str) (sp : Sp) (E : L2.St → XK) (ta : TE) (t : TA) : TE := fun σ H Q => ta σ H fun x H1 => ∃ a dx fs, x = .ref a ∧ H1 a = some (.ins C dx fs) ∧ fs.lookup m = none ∧ t σ H1 fun vs H2 => sp (x :: vs) H2 Q (E σ)
theorem pe_methT {pl : Sem Bool} (he : PE X o ta) (c : Cls X.K C) (hm : Meth X.K C m f) (F : FnOk X.prog X.w X.K X.mg X.base (L2.CX X.prog X.w) k f fd ps sp) (hr : Room k X.A) (hb : Binds X.K fd ps []) (tk : Takes X W) (ha : PA X (e :: es) t)
    (hst : starEach (e :: es) X.env = (false, eval e X.env) :: starEach es X.env := by rfl) (hpl : (backTo pos (starEach es X.env)).any (·.1) = false := by rfl)
    (ht : eval (.Call (.Attribute o m apos) (e :: es) [] pos) X.env = (do
      let ov ← eval o X.env
      standAt apos.atName
      let (f, first) ← holding [ov] (getMethod ov m pl)
      callWith pos f first (backTo pos (starEach (e :: es) X.env)) (backToKw pos (keywordEach [] X.env))) := by rfl) :
    PE X (.Call (.Attribute o m apos) (e :: es) [] pos) (tMethT C m sp (WE W) ta t) := by
  refine ⟨fun pins s σ H Q I h => ?_⟩
  refine PySem.W.methodCall_KW (pl := pl) (thn (he.run pins s σ H _ I h) fun u s1 ⟨x, H1, I1, rx, a, dx, fs, ex, ea, l, q⟩ => ?_) ht
  subst ex
  obtain rfl : u = Value.ref a := rx
  refine getmeth_ok I1 ea c hm l ?_
  refine PySem.W.callWith_K (first := [.ref a]) (h₀ := X.base) I.ok.mod.kin hm.kp (thn (ha.run pos pins s1 σ H1 _ I1 q) fun us s2 ⟨vs, H2, I2, r, q2⟩ => ⟨I2.kIn, ?_⟩) hst hpl
  exact run_fnS (us := .ref a :: us) (vs := .ref a :: vs) (E := WE W) F hr hb (passAt tk σ) I2 (.cons rfl r) q2
/-- C(..) -/
def tMakeT (C : Addr) (sp : Sp) (E : L2.St → XK) (t : TA) : TE := fun σ H Q => t σ H fun vs H1 => ∀ x dx, H1 x = none → H1 dx = none → dx ≠ x →
  sp (.ref x :: vs) (upd (upd H1 dx (.own x)) x (.ins C dx [])) (fun v H2 => v = .non ∧ Q (.ref x) H2) (E σ)
theorem pe_mkT (M : CalI X.prog X.w X.K X.mg X.base (L2.CX X.prog X.w) k C ps sp) (hr : Room (k + 1) X.A) (hm : X.mg x = some (.ref C)) (tk : Takes X W) (ha : PA X (e :: es) t) (hg : Gl X x := by rfl) (hdb : (x == ("__debug__" : Str)) = false := by decide)
    (hs : (e :: es).all nostar = true := by rfl) : PE X (.Call (.Name x p) (e :: es) [] pos) (tMakeT C sp (WE W) t) := by
  obtain ⟨f, fd, m, b, F⟩ := M.ex
  simp only [List.all_cons, Bool.and_eq_true] at hs
  refine ⟨fun pins s σ H Q I h => ?_⟩
  refine wpAny_Call_Name_kw (ld_glob I hg hm ?_ hdb)
  refine PySem.W.callWith_K (h₀ := X.base) I.ok.mod.kin m.kp (thn (ha.run pos pins s σ H _ I h) fun us s1 ⟨vs, H1, I1, r, q⟩ => ⟨I1.kIn, ?_⟩) (star_ok hs.1) (back_ok hs.2)
  have hq := q (s1.heap.objs.size + 1) s1.heap.objs.size (I1.hok.fresh (Nat.le_succ _)) (I1.hok.fresh (Nat.le_refl _)) (Nat.ne_of_lt (Nat.lt_succ_self _))
  have I2 := Inv.made (C := C) I1
  have r2 : Vals (V.ref (s1.heap.objs.size + 1) :: vs) (Value.ref (s1.heap.objs.size + 1) :: us) := .cons rfl r
  have hl : (Value.ref (s1.heap.objs.size + 1) :: us).length = ps.length := by
    have e := r2.length
    rw [F.len _ _ _ _ hq] at e
    exact e.symm
  have b2 := b _ (Value.ref (s1.heap.objs.size + 1) :: us) I2.kIn (by rw [List.append_nil]; exact hl)
  rw [List.append_nil] at b2
  refine wpAny_call (make_map (f := f) I1.kIn m.makes m.init (beq_iff_eq.mp m.fn) (codeAny_mono (F.run _ X.stack _ _ ⟨Value.ref (s1.heap.objs.size + 1) :: us, []⟩ (Value.ref (s1.heap.objs.size + 1) :: us) _ _ (WE W σ) (hr.make C us [])
    (I2.env0.make C us []) b2 r2 hq) fun r s' hq' => ?_))
  cases r with
  | error e => exact passAt tk σ pins _ _ e s' I2 hq'
  | ok fl =>
    cases fl with
    | ret u =>
      obtain ⟨v, H', I3, rv, ev, q3⟩ := I2.after hq'
      subst ev
      exact ⟨rv, ⟨V.ref (s1.heap.objs.size + 1), H', I3, rfl, q3⟩⟩
    | next => exact False.elim hq'
    | brk => exact False.elim hq'
    | cont => exact False.elim hq'
end
/-! ### a def that is given the error which the caller's suite holds -/
abbrev SpE := Addr → Value → Option Addr → Hp → VK → Prop
structure FnE (P : Program) (w : World) (K : PySem.W.Frag) (mg : Str → Option Value) (base : Heap) (k : Nat) (f : Addr) (fd : FuncData) (x : Str) (sp : SpE) : Prop where
  run : ∀ (A : Around) (outer : List Env) (s : Shared) (H : Hp) (args : Args) (Q : VK) (a : Addr) (oe : Obj) (cls : Value) (d : Option Addr), L2H.RoomH k A → L2H.PinOk outer H s (a, oe) → Zc cls d oe → (∃ vs, oe.data = .fields vs) → Env0 P w K mg base A outer s H →
    BindsTo s fd args [(x, .ref a)] → sp a cls d H Q → codeAny (model P w) A (.call (.ref f) args) (CR CX0 outer P w H s Q E0) s
/-- the context of its body -/
abbrev cxE (P : Program) (w : World) (K : PySem.W.Frag) (mg : Str → Option Value) (base : Heap) (N : List Str) (qual : Str) (scope : Scope) (f : Addr) (cd : Value) (A : Around) (outer : List Env) (s : Shared) (H : Hp) (p : Addr × Obj) : Cx :=
  (L2H.cxH CX0 P w K mg base N qual scope f cd A outer s H E0 p).nox
theorem fn_ofE {P : Program} {w : World} {K : PySem.W.Frag} {mg : Str → Option Value} {base : Heap} {k : Nat} {f : Addr} {name qual : Str} {params : Arguments} {body : List Stmt} {scope : Scope} {dV kV doc pm cdv ct oc : Value} {an od : Option Addr}
    {osl : Array (Option Value)} {N : List Str} {x : Str} {sp : SpE} (lk : K.lookup f = some ⟨oc, od, .func (PySem.W.fnOf name qual params body scope dV kV doc pm an cdv ct), osl⟩) (hcd : PySem.W.codeIn K cdv qual = true) (S : FnScope N [x] scope)
    (hbody : ∀ (A : Around) (outer : List Env) (s : Shared) (H : Hp) (Q : VK) (a : Addr) (oe : Obj) (cls : Value) (d : Option Addr), L2H.RoomH k (A.deeper (envOfC qual scope s.heap.objs.size f cdv)) → Zc cls d oe → (∃ vs, oe.data = .fields vs) → sp a cls d H Q →
      ∃ t, PSs (cxE P w K mg base N qual scope f cdv A outer s H (a, oe)) body t ∧ t { nx := fun _ H' => Q .non H', rt := Q } (L2.start N [.ref a]) H) :
    FnE P w K mg base (k + 1) f (PySem.W.fnOf name qual params body scope dV kV doc pm an cdv ct) x sp := by
  refine ⟨fun A outer s H args Q a oe cls d hr hpin hz hf e0 hb hsp => ?_⟩
  have KX : K.In s.heap := e0.mod.kin.keeps fun b o e => (e0.bs b o e).1
  have lim : s.heap.NoLimit := e0.mod.nolimit.keeps fun b o e => (e0.bs b o e).1
  have hkind : ∀ y ∈ [(x, Value.ref a)], scope.names.lookup y.1 = some .local ∨ (scope.names.lookup y.1 = some .cell ∧ ((cellsFrom (s.heap.objs.size + 1) scope.names []).lookup y.1).isSome = true) := fun y hy => by
    have ey : y = (x, Value.ref a) := List.mem_singleton.mp hy
    rw [ey]
    rcases S.par x List.mem_cons_self with q | q
    · exact .inl q
    · exact .inr ⟨q, PySem.W.cellsFrom_some _ _ _ (.inl q)⟩
  refine codeAny_call_function hr.depth (KX _ _ lk) rfl S.co S.gen rfl (PySem.W.codeRec_of KX hcd) (hb _ _ _ _ ?_)
  refine wpAny_newFunctionEnv_cells S.kind hkind fun env he s1 y => ?_
  subst he
  refine ⟨lim.keeps y.toInCall.keep, codeAny_func ?_⟩
  obtain ⟨t, ht, hq⟩ := hbody A outer s H Q a oe cls d (hr.deeper _) hz hf hsp
  have I : Inv (L2H.cxH CX0 P w K mg base N qual scope f cdv A outer s H E0 (a, oe)) [] (L2.start N [.ref a]) H s1 := L2H.inv_startH (us := [.ref a]) S hpin e0 rfl (.cons rfl .nil) y
  refine wpAny_mono (ht.nox.run [] s1 (L2.start N [.ref a]) H _ I hq) (fun fl s' hs => ?_) fun e s' hs => hs
  have fin : ∀ {σ' : L2.St} {H' : Hp} {v : V} {u : Value}, Inv (L2H.cxH CX0 P w K mg base N qual scope f cdv A outer s H E0 (a, oe)) [] σ' H' s' → RelV v u → Q v H' → CE outer P w H s Q u s' :=
    fun {σ' H' v u} J rv q => ⟨v, H', J.os, J.bare, J.base, J.hok, rv, q⟩
  cases fl with
  | ret u =>
    obtain ⟨v, σ', H', J, rv, q⟩ := hs
    exact fin J rv q
  | next =>
    obtain ⟨σ', H', J, q⟩ := hs
    exact fin (v := V.non) (u := Value.none) J rfl q
  | brk =>
    obtain ⟨_, _, _, q⟩ := hs
    exact False.elim q
  | cont =>
    obtain ⟨_, _, _, q⟩ := hs
    exact False.elim q
structure CalE (P : Program) (w : World) (K : PySem.W.Frag) (mg : Str → Option Value) (base : Heap) (k : Nat) (x : Str) (ps : List Str) (sp : SpE) : Prop where
  ex : ∃ f fd y, ps = [y] ∧ mg x = some (.ref f) ∧ PySem.W.keepIn K (.ref f) = true ∧ Binds K fd [y] [] ∧ FnE P w K mg base k f fd y sp
theorem Src.calE {P : Program} {w : World} {K : PySem.W.Frag} {mg : Str → Option Value} {base : Heap} {x y : Str} {st : Stmt} {N : List Str} {k : Nat} {sp : SpE} (S : Src K mg x st) (sc : FnScope N [y] (defScope st)) (bn : BindP x st [y])
    (hbody : ∀ (f : Addr) (cdv : Value) (A : Around) (outer : List Env) (s : Shared) (H : Hp) (Q : VK) (a : Addr) (oe : Obj) (cls : Value) (d : Option Addr), L2H.RoomH k (A.deeper (envOfC x (defScope st) s.heap.objs.size f cdv)) → Zc cls d oe → (∃ vs, oe.data = .fields vs) → sp a cls d H Q →
      ∃ t, PSs (cxE P w K mg base N x (defScope st) f cdv A outer s H (a, oe)) (defBody st) t ∧ t { nx := fun _ H' => Q .non H', rt := Q } (L2.start N [.ref a]) H) : CalE P w K mg base (k + 1) x [y] sp := by
  obtain ⟨f, fd, g, F⟩ := S
  have b := F.bindsN bn
  have kp := F.kp
  obtain ⟨oc, od, dV, kV, doc, pm, an, cdv, ct, osl, rfl, lk, hcd, _, _⟩ := F.ex
  exact ⟨f, _, y, rfl, g, kp, b, fn_ofE lk hcd sc fun A outer s H Q a oe cls d hr hz hf hsp => hbody f cdv A outer s H Q a oe cls d hr hz hf hsp⟩
section
variable {X : Cx} {k : Nat} {x : Str} {ps : List Str} {sp : SpE} {p pos : Pos} {e : Expr} {te : TA} {a : Addr} {oe : Obj} {cls : Value} {d : Option Addr} {pn : List (Addr × Obj)}
def tCallE (a : Addr) (cls : Value) (d : Option Addr) (sp : SpE) (te : TA) : TE := fun σ H Q => te σ H fun vs H1 => vs = [.ref a] ∧ sp a cls d H1 Q
/-- f(err) in the suite -/
theorem pe_calE (C : CalE X.prog X.w X.K X.mg X.base k x ps sp) (hr : Room k X.A) (hz : Zc cls d oe) (hf : ∃ vs, oe.data = .fields vs) (ha : PA (X.suite a ((a, oe) :: pn)) [e] te) (hg : Gl (X.suite a ((a, oe) :: pn)) x := by rfl) (hdb : (x == ("__debug__" : Str)) = false := by decide)
    (hs : nostar e = true := by rfl) : PE (X.suite a ((a, oe) :: pn)) (.Call (.Name x p) [e] [] pos) (tCallE a cls d sp te) := by
  obtain ⟨f, fd, y, _, g, kp, b, F⟩ := C.ex
  refine ⟨fun pins s σ H Q I h => ?_⟩
  refine wpAny_Call_Name_kw (ld_glob I hg g ?_ hdb)
  refine PySem.W.callWith_K (h₀ := X.base) I.ok.mod.kin kp (thn (ha.run pos pins s σ H _ I h) fun us s1 ⟨vs, H1, I1, r, ev, q⟩ => ⟨I1.kIn, ?_⟩) (star_ok hs) rfl
  subst ev
  cases r with
  | cons rx rr =>
    cases rr
    cases rx
    have P1 := I1.pin (a, oe) (List.mem_append_left _ List.mem_cons_self)
    have hpin : L2H.PinOk X.stack H1 s1 (a, oe) := ⟨P1.1, P1.2.1, fun hm => (List.mem_cons.mp (I1.stkSub a hm)).elim P1.2.2.1 P1.2.2.2.1, P1.2.2.2.2⟩
    have bb := b s1 [.ref a] I1.kIn rfl
    refine wpAny_call (codeAny_mono (F.run (X.suite a ((a, oe) :: pn)).A X.stack s1 H1 ⟨[.ref a], []⟩ Q a oe cls d ⟨hr.dp, hr.un⟩ hpin hz hf I1.env0 bb q) fun r s' hq => ?_)
    cases r with
    | error e => exact False.elim hq
    | ok fl =>
      cases fl with
      | ret u => exact I1.after hq
      | next => exact False.elim hq
      | brk => exact False.elim hq
      | cont => exact False.elim hq
end
/-- isinstance(err, (C1, C2, ..)) -/
def rIsYT (K : PySem.W.Frag) (a : Addr) (cls : Value) (d : Option Addr) : List V → Hp → VK → Prop := fun xs H Q => ∃ tp, xs = [.ref a, .ref tp] ∧ ∃ D, cls = .ref D ∧ ∃ dd, d = some dd ∧ (∃ fs, H dd = some (.xd fs)) ∧ ExcC K D ∧
  ∃ cs, H tp = some (.tup cs) ∧ ∃ us, cs.map clsVal = us.map some ∧ ∃ b, PySem.W.kitAny K (.ref D) us = some b ∧ Q (.bl b) H
theorem cls_vals : ∀ {cs : List V} {us ws : List Value}, cs.map clsVal = us.map some → Vals cs ws → ws = us
  | [], [], _, _, .nil => rfl
  | [], _ :: _, _, h, _ => by cases h
  | _ :: _, [], _, h, _ => by cases h
  | c :: cs, u :: us, _, h, .cons r rr => by
    simp only [List.map_cons, List.cons.injEq] at h
    have e2 := cls_vals h.2 rr
    subst e2
    congr 1
    have h1 := h.1
    cases c with
    | ref C2 => cases h1; exact r
    | ty n => cases h1; exact r
    | _ => cases h1
theorem call_isYT {X : Cx} {a : Addr} {oe : Obj} {cls : Value} {d : Option Addr} (hp : (a, oe) ∈ X.pn) (hz : Zc cls d oe) (hf : ∃ vs, oe.data = .fields vs) : CallR X (.builtin "isinstance") (rIsYT X.K a cls d) := by
  intro pins s σ H xs us Q I r h
  obtain ⟨tp, rfl, D, rfl, dd, rfl, ⟨fs, hdd⟩, C, cs, hT, ws, hcs, b, e, q⟩ := h
  cases r with
  | cons rx rr =>
    cases rr with
    | cons rt rr =>
      cases rr
      cases rx
      cases rt
      obtain ⟨hget, _⟩ := I.pin (a, oe) (List.mem_append_left _ hp)
      obtain ⟨vs, hv⟩ := hf
      have hx : ObjOk X.prog X.w H s.heap dd (.xd fs) := I.hok dd _ hdd
      obtain ⟨mA, ⟨od, es, ep, ho, hrest⟩, hr⟩ := hx
      have J : PySem.W.InstAt s.heap a oe D (some od) := ⟨hget, hz.1, by unfold PySem.W.notCls; rw [hv] <;> rfl, by rw [hz.2]; exact ho⟩
      obtain ⟨_, its, rv, o, h1, h2, n, h3⟩ := (show ObjOk X.prog X.w H s.heap tp (.tup cs) from I.hok tp _ hT)
      have e3 := cls_vals hcs rv
      subst e3
      obtain ⟨oc, od2, dt, sl⟩ := o
      simp only at h2 h3
      subst h2 h3
      exact PySem.W.kia_tup (PySem.W.fx_kitx C.hg C.hk C.hs C.hd C.ha C.hn C.ht C.hm) I.kIn ⟨_, J⟩ h1 e (fun z => nomatch z) fun tk => ⟨.bl b, H, I.kept (t' := tk) fun _ _ z => z, rfl, q⟩
end Fx
namespace Fx
open PySem PySem.Spec PyProof.Rows L2
/-- // of any sign -/
def CDivZ (_ j : Int) : Prop := j ≠ 0 ∧ j.natAbs.log2 < 9000
section
variable {X : Cx}
theorem op_fdivZ : OpR X (binaryOp .FloorDiv) (rI CDivZ fun i j => .int (i.fdiv j)) := opI fun i j _ _ _ _ _ hc q => floordiv_int hc.1 q (.inl (PyProof.noPylong_of_log2 hc.2))
def rIntB : List V → Hp → VK → Prop := fun xs H Q => ∃ k, xs = [.bl k] ∧ Q (.int (if k = true then 1 else 0)) H
theorem int_B : CallR X (.type "int") rIntB := CallR.imp call_int1 fun xs H Q h => .inr h
/-- a callee that may raise, and does not -/
theorem passX : Passes (L2.CX X.prog X.w) X E0 := fun _ _ _ _ _ _ _ h => by
  obtain ⟨_, _, _, _, _, _, _, _, _, _, _, _, hE⟩ := h
  exact hE.elim
end
theorem cdivZ_of {i j : Int} (h0 : j ≠ 0) (h : j.natAbs < 2 ^ 64) : CDivZ i j := ⟨h0, Nat.lt_trans (PySem.Flt.log2_lt_of (by decide) h) (by decide)⟩
theorem Bag.ins {H : Hp} {b : Addr} (B : Bag H b) {a C dx : Addr} {fs : List (Str × V)} (h : H a = Option.some (.ins C dx fs)) : a ≠ b := by
  obtain ⟨c, ns, x, r, m, n, h1, _⟩ := B
  exact ne_of h h1 (by intro z; cases z)
theorem Kp.ins {H H1 : Hp} {b : Addr} (x : Kp b H H1) (B : Bag H b) {a C dx : Addr} {fs : List (Str × V)} (h : H a = Option.some (.ins C dx fs)) : H1 a = Option.some (.ins C dx fs) := x.keep _ _ (B.ins h) h
end Fx
namespace Fx
open PySem PySem.Spec PyProof.Rows L2
/-- isinstance(o, C), o an instance of an own class -/
def rIsI (K : PySem.W.Frag) : List V → Hp → VK → Prop := fun xs H Q => ∃ a c, xs = [.ref a, c] ∧ ∃ D dx fs, H a = some (.ins D dx fs) ∧ C8.InsC K D ∧ ∃ cv, clsVal c = some cv ∧ ∃ b, PySem.W.kitOne K (.ref D) cv = some b ∧ Q (.bl b) H
theorem is_I {X : Cx} : CallR X (.builtin "isinstance") (rIsI X.K) := by
  intro pins s σ H xs us Q I r h
  obtain ⟨a, c, rfl, D, dx, fs, ha, k, cv, hcv, b, hb, q⟩ := h
  obtain ⟨u, w', rfl, ru, rw'⟩ := vals2 r
  have e : w' = cv := by
    cases c with
    | ref C2 => cases hcv; exact rw'
    | ty n => cases hcv; exact rw'
    | _ => cases hcv
  subst e
  exact isinst_ok I ru (TyOf.ins ha k.cl k.ha k.hn k.htk k.hm) hb fun tk => ⟨.bl b, H, I.tok _, rfl, q⟩
def insB (K : PySem.W.Frag) (C : Addr) : Bool := decide (PySem.W.findIn K (.ref C) "__class__" = some (some (.builtin "object.__class__"))) && (decide (PySem.W.specialIn K (.builtin "object.__class__") "__get__" = some (some (.builtin "getset_descriptor.__get__"))) &&
  (decide (PySem.W.takesIn K (.builtin "object.__class__") = some true) && (decide (PySem.W.mroIn K C (.type "object") = some true) && decide (PySem.W.kitOne K (.ref C) (.ref C) = some true))))
theorem insC_of {K : PySem.W.Frag} {C : Addr} (cl : Cls K C) (h : insB K C = true) : C8.InsC K C := by
  obtain ⟨h1, h⟩ := He.ba h
  obtain ⟨h2, h⟩ := He.ba h
  obtain ⟨h3, h⟩ := He.ba h
  obtain ⟨h4, h5⟩ := He.ba h
  exact ⟨cl, of_decide_eq_true h1, of_decide_eq_true h2, of_decide_eq_true h3, of_decide_eq_true h4, of_decide_eq_true h5⟩
end Fx
namespace Fx
open PySem PySem.Spec PyProof.Rows L2
/-- the loop over a list or a tuple that stays, by an invariant -/
theorem forQ {K : PySem.W.Frag} {a : Addr} {xs : List V} {j : Nat} {g : TG} {tb : TS} {D : Ends} {σ : L2.St} {H : Hp} (hv : σ[j]? = some (some (.ref a))) (hq : Sq H a xs) (Pv : Nat → L2.St → Hp → Prop) (h0 : Pv 0 σ H) (hS : ∀ i σ H', Pv i σ H' → Same H H')
    (hs : ∀ i x σ H, xs[i]? = some x → Pv i σ H → g x σ H fun σ2 H2 => tb { D with nx := Pv (i + 1), ct := Pv (i + 1), bk := D.nx } σ2 H2) (hd : ∀ σ H, Pv xs.length σ H → D.nx σ H) : tFor (iQ K (tVar j)) g tb D σ H := by
  rcases hq with hq | hq
  · exact .inl ⟨_, hv, a, rfl, ⟨_, .inl (.inl hq)⟩, for_list (K := K) (a := a) (xs := xs) Pv h0 (fun i σ H' _ p => .inl (.inl (hS i σ H' p _ _ hq))) hs hd⟩
  · exact .inr ⟨_, hv, a, rfl, ⟨_, .inl (.inl hq)⟩, for_tup (K := K) (a := a) (xs := xs) Pv h0 (fun i σ H' _ p => .inl (.inl (hS i σ H' p _ _ hq))) hs hd⟩
end Fx
namespace Fx
open PySem PySem.Spec PyProof.Rows L2
/-- a statement first; what follows stays folded -/
theorem nxI {t : TS} {D : Ends} {σ : L2.St} {H : Hp} (h : ∀ K : L2.St → Hp → Prop, (∀ σ H, D.nx σ H → K σ H) → t { D with nx := K } σ H) : t D σ H := h D.nx fun _ _ x => x
end Fx
/-! Instances of own classes under the operators: len(o), o[i], x in o, o | p, o != p, list(o) -/
namespace PySem.W
open PySem PySem.Spec PySem.Calls PyProof.Rows
section
variable {prog : Program} {w : World} {A : Around} {E : Value → Shared → Prop} {s : Shared} {K : Frag} {x C L f : Addr} {h₀ : Heap} {m : Str → Option Value} {ox : Obj} {od : Option Obj} {b tb : Value}
theorem fx_ne_K {Q : Value → Shared → Prop} (hu : A.units + 1 < cLine) (F : Fr h₀ L s.heap m) (X₀ : K.In h₀) (I : InstAt s.heap x ox C od) (hb : Looks (model prog w) s.heap (typeOf b) tb) (hn : notFirst K C tb = true)
    (hs : findIn K (.ref C) "__ne__" = some (some (.builtin "object.__ne__"))) (hq : findIn K (.ref C) "__eq__" = some (some (.ref f))) (hf : isFn K (.ref f) = true) (ho : subIn K (.ref C) (.type "object") = some true)
    (h : wpAny (model prog w) A.in1 (call (.ref f) [.ref x, b]) (fun v s' => ∃ r, v = .bool r ∧ Q (.bool (!r)) s') E s) : wpAny (model prog w) A (richCompare .NotEq (.ref x) b) Q E s := by
  have X := X₀.keeps F.keep
  have fin : wpAny (model prog w) A (call (.builtin "object.__ne__") [.ref x, b]) (fun v s' => ∃ r, v = .bool r ∧ Q v s') E s := by
    refine wpAny_call (codeAny_call_builtin PySem.F.cmp_object.ne.plain PySem.F.cmpEntry_ne ?_)
    refine check_slot (i := "object.__ne__") (owner := "object") (n := "__ne__") PySem.F.cmpKind_ne PySem.F.cmpSplit_ne (I.type.andThen (looks_subIn X ho)) (PySem.F.cmpArgs_ne _ _) ?_
    unfold Builtin.«object.__ne__»
    refine wpAny_bind (wpAny_of_eq (a := ((Value.ref x : Value), [b])) (by first | rfl | (simp only [slotArgs]; rfl)) ?_)
    refine wpAny_bind (wpAny_cRoomFor (show A.in1.units < cLine from hu) ?_)
    refine wpAny_bind (ifBound_K X I hq hf (wpAny_mono h (fun v s' hv => ?_) fun _ _ e => e))
    obtain ⟨r, rfl, q⟩ := hv
    refine wpAny_bind (m := truthy (.bool r)) (wpAny_truthy_bool ?_)
    first | exact wpAny_pure ⟨_, rfl, ⟨_, rfl, q⟩⟩ | exact wpAny_pure ⟨_, rfl, q⟩ | exact wpAny_pure q
  have one : wpAny (model prog w) A (tryCompare (.ref x) "__ne__" b) (fun r s' => ∃ v, r = some v ∧ Q v s') E s := by
    unfold tryCompare
    have fin2 : wpAny (model prog w) A (call (.builtin "object.__ne__") ([.ref x] ++ [b]) >>= fun v => pure (some v)) (fun r s' => ∃ c, r = some (.bool c) ∧ Q (.bool c) s') E s := wpAny_bind (wpAny_mono fin (fun v s' hv => by
      obtain ⟨r, rfl, q⟩ := hv
      exact wpAny_pure ⟨_, rfl, q⟩) fun _ _ e => e)
    have two : wpAny (model prog w) A (callSpecialIfBound? (.ref x) "__ne__" [b]) (fun r s' => ∃ c, r = some (.bool c) ∧ Q (.bool c) s') E s := by
      simp only [callSpecialIfBound?, bindSpecialIfBound?]
      refine wpAny_holding (wpAny_bind (wpAny_bind (wpAny_bind (I.type.here ((looks_findIn X hs).here ?_)))))
      refine wpAny_bind (wpAny_askSetting (wpAny_ite ?_))
      split
      · rw [PySem.F.cmp_object.ne.bind]
        exact wpAny_bind (wpAny_pure (wpAny_pure (by exact fin2)))
      · rw [PySem.F.cmp_object.ne.bind]
        exact wpAny_tryCatch (wpAny_bind (wpAny_pure (wpAny_pure (by exact fin2))))
    refine wpAny_bind (wpAny_mono two (fun r s' hv => ?_) fun _ _ e => e)
    obtain ⟨c, rfl, q⟩ := hv
    exact wpAny_pure ⟨_, rfl, q⟩
  unfold richCompare
  simp only [oneThing_ref]
  refine wpAny_holding (wpAny_bind (wpAny_cRoomFor (Nat.lt_of_succ_lt hu) ?_))
  refine wpAny_bind (I.type.here (wpAny_bind (hb.here ?_)))
  split
  · rename_i q
    have e : subIn K tb (.ref C) = some false := by
      rcases Bool.or_eq_true_iff.mp hn with e | e
      · rw [beq_iff_eq.mp e] at q; simp at q
      · exact beq_iff_eq.mp e
    refine wpAny_bind ((looks_subIn X e).here ?_)
    simp only [Bool.false_eq_true, if_false]
    refine wpAny_bind (wpAny_mono one (fun r s' z => ?_) fun _ _ e => e)
    obtain ⟨v, rfl, hq⟩ := z
    exact wpAny_pure hq
  · refine wpAny_bind (wpAny_pure ?_)
    simp only [Bool.false_eq_true, if_false]
    refine wpAny_bind (wpAny_mono one (fun r s' z => ?_) fun _ _ e => e)
    obtain ⟨v, rfl, hq⟩ := z
    exact wpAny_pure hq
end
end PySem.W
namespace Fx
open PySem PySem.Spec PyProof.Rows L2
section
variable {X : Cx} {CX : CXT} {k : Nat} {C : Addr} {ps : List Str} {sp : Sp} {E : XK}
/-- the callee runs somewhere below -/
theorem run_fnA {A : Around} {f : Addr} {fd : FuncData} {pins : List (Addr × Obj)} {σ : L2.St} {H : Hp} {s : Shared} {Q : VK} {us : List Value} {vs : List V} (hA : A.frames = X.A.frames) (F : FnOk X.prog X.w X.K X.mg X.base CX k f fd ps sp) (hr : Room k A) (hb : Binds X.K fd ps []) (hx : Passes CX X E)
    (I : Inv X pins σ H s) (r : Vals vs us) (h : sp vs H Q E) : wpAny (model X.prog X.w) A (call (.ref f) us) (EP X pins σ Q) X.xe s := by
  have e0 : Env0 X.prog X.w X.K X.mg X.base A X.stack s H := by
    have e := I.env0
    exact ⟨by rw [hA]; exact e.frames, e.mod, e.bs, e.bsz, e.funs, e.frf, e.hok, e.bare⟩
  have hl : us.length = ps.length := by rw [← r.length]; exact F.len _ _ _ _ h
  have b := hb s us I.kIn (by rw [List.append_nil]; exact hl)
  rw [List.append_nil] at b
  refine wpAny_call (codeAny_mono (F.run A X.stack s H ⟨us, []⟩ us vs Q E hr e0 b r h) fun r s' hq => ?_)
  cases r with
  | error e => exact hx pins σ H s e s' I hq
  | ok fl =>
    cases fl with
    | ret u => exact I.after hq
    | next => exact False.elim hq
    | brk => exact False.elim hq
    | cont => exact False.elim hq
theorem inst_at {pins : List (Addr × Obj)} {σ : L2.St} {H : Hp} {s : Shared} {a dx : Addr} {fs : List (Str × V)} (I : Inv X pins σ H s) (ha : H a = some (.ins C dx fs)) : ∃ ox od, PySem.W.InstAt s.heap a ox C od := by
  obtain ⟨mA, J, _⟩ := ins_get I.hok ha
  obtain ⟨od, J, _⟩ := J.look
  exact ⟨_, _, J⟩
/-- len(o) -/
def rLenO (C : Addr) (sp : Sp) (E : XK) : List V → Hp → VK → Prop := fun xs H Q => ∃ a dx fs, xs = [.ref a] ∧ H a = some (.ins C dx fs) ∧ sp [.ref a] H (fun v H' => ∃ n, v = .int n ∧ 0 ≤ n ∧ n < 2 ^ 63 ∧ Q (.int n) H') E
theorem len_O (M : CalM X.prog X.w X.K X.mg X.base CX k C "__len__" ps sp) (hr : Room (k + 1) X.A) (hx : Passes CX X E) : CallR X (.builtin "len") (rLenO C sp E) := by
  intro pins s σ H xs us Q I rv h
  obtain ⟨a, dx, fs, rfl, ha, hsp⟩ := h
  obtain ⟨f, fd, m, b, F⟩ := M.ex
  obtain ⟨u, rfl, ru⟩ := rv.one
  cases ru
  obtain ⟨ox, od, J⟩ := inst_at I ha
  obtain ⟨mm, hF⟩ := I.fr
  refine PySem.W.len_K hF I.ok.mod.kin J m.at_ m.fn ?_
  refine wpAny_mono (run_fnA (A := X.A.in1) (vs := [.ref a]) (us := [.ref a]) rfl F hr.in1 b hx I (.cons rfl .nil) hsp) (fun v s' hv => ?_) fun _ _ z => z
  obtain ⟨z, H', I', rz, n, rfl, h0, h1, q⟩ := hv
  obtain ⟨t, rfl⟩ := rz
  exact ⟨⟨h0, h1⟩, .int n, H', I'.tok _, ⟨_, rfl⟩, q⟩
/-- x in o -/
def rInO (C : Addr) (sp : Sp) (E : XK) : R2 := fun x y H Q => ∃ a dx fs, y = .ref a ∧ H a = some (.ins C dx fs) ∧ sp [.ref a, x] H (fun v H' => ∃ r, v = .bl r ∧ Q (.bl r) H') E
def rNotInO (C : Addr) (sp : Sp) (E : XK) : R2 := fun x y H Q => ∃ a dx fs, y = .ref a ∧ H a = some (.ins C dx fs) ∧ sp [.ref a, x] H (fun v H' => ∃ r, v = .bl r ∧ Q (.bl (!r)) H') E
theorem in_O (M : CalM X.prog X.w X.K X.mg X.base CX k C "__contains__" ps sp) (hr : Room k X.A) (hx : Passes CX X E) : OpR X (compareOp .In) (rInO C sp E) := by
  intro pins s σ H x y v u Q I rx ry hq
  obtain ⟨f, fd, m, b, F⟩ := M.ex
  obtain ⟨a, dx, fs, rfl, ha, hsp⟩ := hq
  cases ry
  obtain ⟨ox, od, J⟩ := inst_at I ha
  obtain ⟨mm, hF⟩ := I.fr
  refine PySem.W.in_K hF I.ok.mod.kin J m.at_ m.fn ?_
  refine wpAny_mono (run_fnA (vs := [.ref a, x]) (us := [.ref a, v]) rfl F hr b hx I (.cons rfl (.cons rx .nil)) hsp) (fun v s' hv => ?_) fun _ _ z => z
  obtain ⟨z, H', I', rz, r, rfl, q⟩ := hv
  cases rz
  exact wpAny_truthy_bool ⟨.bl r, H', I', rfl, q⟩
theorem notIn_O (M : CalM X.prog X.w X.K X.mg X.base CX k C "__contains__" ps sp) (hr : Room k X.A) (hx : Passes CX X E) : OpR X (compareOp .NotIn) (rNotInO C sp E) := by
  intro pins s σ H x y v u Q I rx ry hq
  obtain ⟨f, fd, m, b, F⟩ := M.ex
  obtain ⟨a, dx, fs, rfl, ha, hsp⟩ := hq
  cases ry
  obtain ⟨ox, od, J⟩ := inst_at I ha
  obtain ⟨mm, hF⟩ := I.fr
  refine PySem.W.notIn_K hF I.ok.mod.kin J m.at_ m.fn ?_
  refine wpAny_mono (run_fnA (vs := [.ref a, x]) (us := [.ref a, v]) rfl F hr b hx I (.cons rfl (.cons rx .nil)) hsp) (fun v s' hv => ?_) fun _ _ z => z
  obtain ⟨z, H', I', rz, r, rfl, q⟩ := hv
  cases rz
  exact wpAny_truthy_bool ⟨.bl (!r), H', I', rfl, q⟩
/-- o op p, both of the class at C -/
def rBinO (C : Addr) (sp : Sp) (E : XK) : R2 := fun x y H Q => ∃ a b dx dy fs gs, x = .ref a ∧ y = .ref b ∧ H a = some (.ins C dx fs) ∧ H b = some (.ins C dy gs) ∧ sp [.ref a, .ref b] H (fun v H' => ∃ r, v = .ref r ∧ Q (.ref r) H') E
theorem bin_O {op : Operator} {mn : Str} (hop : PySem.dunder op.info.2 = mn) (M : CalM X.prog X.w X.K X.mg X.base CX k C mn ps sp) (hc : PySem.W.selfFirst X.K C = true) (hr : Room k X.A) (hx : Passes CX X E) : OpR X (binaryOp op) (rBinO C sp E) := by
  intro pins s σ H x y v u Q I rx ry hq
  obtain ⟨f, fd, m, b, F⟩ := M.ex
  obtain ⟨a, c, dx, dy, fs, gs, rfl, rfl, ha, hb, hsp⟩ := hq
  cases rx
  cases ry
  subst hop
  obtain ⟨ox, od, J⟩ := inst_at I ha
  obtain ⟨oy, od', J'⟩ := inst_at I hb
  obtain ⟨mm, hF⟩ := I.fr
  refine PySem.W.binop_K hF I.ok.mod.kin J J'.type hc m.at_ m.fn ?_
  refine wpAny_mono (run_fnA (vs := [.ref a, .ref c]) (us := [.ref a, .ref c]) rfl F hr b hx I (.cons rfl (.cons rfl .nil)) hsp) (fun v s' hv => ?_) fun _ _ z => z
  obtain ⟨z, H', I', rz, r, rfl, q⟩ := hv
  cases rz
  exact ⟨.ref r, H', I', rfl, q⟩
/-- o != p by the own __eq__ -/
def rNeO (C : Addr) (sp : Sp) (E : XK) : R2 := fun x y H Q => ∃ a b dx dy fs gs, x = .ref a ∧ y = .ref b ∧ H a = some (.ins C dx fs) ∧ H b = some (.ins C dy gs) ∧ sp [.ref a, .ref b] H (fun v H' => ∃ r, v = .bl r ∧ Q (.bl (!r)) H') E
def neB (K : PySem.W.Frag) (C : Addr) : Bool := decide (PySem.W.findIn K (.ref C) "__ne__" = some (some (.builtin "object.__ne__"))) && decide (PySem.W.subIn K (.ref C) (.type "object") = some true)
theorem ne_O (M : CalM X.prog X.w X.K X.mg X.base CX k C "__eq__" ps sp) (hn : neB X.K C = true) (hr : Room (k + 1) X.A) (hx : Passes CX X E) : OpR X (compareOp .NotEq) (rNeO C sp E) := by
  intro pins s σ H x y v u Q I rx ry hq
  obtain ⟨f, fd, m, b, F⟩ := M.ex
  obtain ⟨a, c, dx, dy, fs, gs, rfl, rfl, ha, hb, hsp⟩ := hq
  cases rx
  cases ry
  obtain ⟨h1, h2⟩ := He.ba hn
  obtain ⟨ox, od, J⟩ := inst_at I ha
  obtain ⟨oy, od', J'⟩ := inst_at I hb
  obtain ⟨mm, hF⟩ := I.fr
  show wpAny (model X.prog X.w) X.A (richCompare .NotEq (.ref a) (.ref c)) (EP X pins σ Q) X.xe s
  refine PySem.W.fx_ne_K (tb := .ref C) (by have := hr.un; omega) hF I.ok.mod.kin J J'.type (by simp [PySem.W.notFirst]) (of_decide_eq_true h1) m.at_ m.fn (of_decide_eq_true h2) ?_
  refine wpAny_mono (run_fnA (A := X.A.in1) (vs := [.ref a, .ref c]) (us := [.ref a, .ref c]) rfl F hr.in1 b hx I (.cons rfl (.cons rfl .nil)) hsp) (fun v s' hv => ?_) fun _ _ z => z
  obtain ⟨z, H', I', rz, r, rfl, q⟩ := hv
  cases rz
  exact ⟨r, rfl, .bl (!r), H', I', rfl, q⟩
/-- o[i] -/
def rIxO (C : Addr) (sp : Sp) (E : XK) : R2 := fun x y H Q => ∃ a dx fs, x = .ref a ∧ H a = some (.ins C dx fs) ∧ sp [.ref a, y] H Q E
def ixB (K : PySem.W.Frag) (C : Addr) : Bool := match PySem.W.findIn K (.ref C) "__getitem__" with
  | some (some (.ref f)) => PySem.W.fnIn K f
  | _ => false
theorem pe_ixO {ae be : Expr} {ta tb : TE} {pos : Pos} (M : CalM X.prog X.w X.K X.mg X.base CX k C "__getitem__" ps sp) (hr : Room (k + 1) X.A) (hx : Passes CX X E) (ha : PE X ae ta) (hb : PE X be tb)
    (hs : ∀ v u, subscripted be true v u = runValue (.builtin "lifetime.subscript" ⟨[v, u], []⟩)) (hfn : ixB X.K C = true) : PE X (.Subscript ae be pos) (tOp (rIxO C sp E) ta tb) := by
  obtain ⟨f, fd, m, b, F⟩ := M.ex
  refine ⟨fun pins s σ H Q I h => ?_⟩
  refine Subscript_ (binT ha hb I h fun v u s2 x y H2 I2 rx ry q => ?_)
  obtain ⟨a, dx, fs, rfl, hA, hsp⟩ := q
  cases rx
  obtain ⟨ox, od, J⟩ := inst_at I2 hA
  obtain ⟨mm, hF⟩ := I2.fr
  refine PySem.W.sub_K hF I2.ok.mod.kin J m.at_ (by unfold ixB at hfn; rw [m.at_] at hfn; exact hfn) m.fn ?_ (hs _ _)
  exact run_fnA (A := X.A.in1) (vs := [.ref a, y]) (us := [.ref a, u]) rfl F hr.in1 b hx I2 (.cons rfl (.cons ry .nil)) hsp
end
end Fx
namespace Fx
open PySem PySem.Spec PyProof.Rows L2
/-! ### a tuple whose object is known (its methods may be called) -/
def FT (H : Hp) (p : Addr) (xs : List V) : Prop := ∃ ob : Obj, H p = some (.frz ob (.tup xs)) ∧ ob.dict = none
theorem FT.same {H H' : Hp} {p : Addr} {xs : List V} (h : FT H p xs) (s : Same H H') : FT H' p xs := by
  obtain ⟨ob, h, d⟩ := h
  exact ⟨ob, s _ _ h, d⟩
theorem FT.kp {b : Addr} {H H' : Hp} {p : Addr} {xs : List V} (h : FT H p xs) (B : Bag H b) (k : Kp b H H') : FT H' p xs := by
  obtain ⟨ob, h, d⟩ := h
  refine ⟨ob, k.keep _ _ ?_ h, d⟩
  obtain ⟨kvs, hb⟩ := B.some
  exact ne_of h hb (by intro z; cases z)
theorem FT.sq {K : PySem.W.Frag} {H : Hp} {p : Addr} {xs : List V} (h : FT H p xs) : SqT K H p xs := by
  obtain ⟨ob, h, _⟩ := h
  exact .inl (.inr ⟨ob, h⟩)
section
variable {X : Cx}
/-- tuple(xs) -/
def rTupF : List V → Hp → VK → Prop := fun vs H Q => ∃ p, vs = [.ref p] ∧ ∃ ys, H p = some (.lst ys) ∧ ∀ l H', H l = none → Same H H' → FT H' l ys → Q (.ref l) H'
theorem tup_F : CallR X (.type "tuple") rTupF := by
  intro pins s σ H xs us Q I r h
  obtain ⟨p, rfl, ys, hp, q⟩ := h
  obtain ⟨u, rfl, rx⟩ := r.one
  cases rx
  obtain ⟨its, r', pl, hz⟩ := I.list (xs := ys) (.inl (.inl hp))
  have hlen := r'.length
  refine call_tuple_list pl.isList (fun h' kp => ?_) (by simp only [List.size_toArray] <;> omega)
  have I1 : Inv X pins σ H { s with heap := h' } := I.kept (t' := s.toks) kp
  have I2 : Inv X pins σ (upd H h'.objs.size (.frz { cls := .type "tuple", data := .seq its.toArray } (.tup ys))) { s with heap := h'.push { cls := .type "tuple", data := .seq its.toArray } } :=
    I1.laid (t' := s.toks) (fun b o e => Heap.get?_push_of_some _ e) (Nat.le_refl _) (show ObjOk X.prog X.w _ _ _ (.frz _ (.tup ys)) from ⟨Heap.get?_push_size _ rfl, hz, its, r', IsTup.new _ _⟩)
  have nl : H h'.objs.size = none := I1.hok.fresh (Nat.le_refl _)
  exact ⟨.ref h'.objs.size, _, I2, rfl, q _ _ nl (same_new nl) ⟨_, upd_same, rfl⟩⟩
end
end Fx
namespace Fx
open PySem PySem.Spec PyProof.Rows L2
/-! ### iter(t), t a tuple; list(o) of an instance whose __iter__ says iter(self.f) -/
def TItO (p it : Addr) (i : Nat) : HO := .ext fun h => h.IsTupleIter it p i
def EndO (it : Addr) : HO := .ext fun h => ∃ o, h.get? it = some o
theorem titO_ok {P : Program} {w : World} {H : Hp} {h : Heap} {p it : Addr} {i : Nat} (e : h.IsTupleIter it p i) : ObjOk P w H h it (TItO p it i) := ⟨e, let ⟨o, ho, _⟩ := e; ⟨o, ho⟩, fun h1 h2 q k => let ⟨o, ho, r⟩ := q; ⟨o, k _ ho, r⟩⟩
theorem endO_ok {P : Program} {w : World} {H : Hp} {h : Heap} {it : Addr} (e : ∃ o, h.get? it = some o) : ObjOk P w H h it (EndO it) := ⟨e, e, fun h1 h2 q k => let ⟨o, ho⟩ := q; ⟨o, k _ ho⟩⟩
section
variable {prog : Program} {w : World} {A : Around} {E : Value → Shared → Prop} {s : Shared}
theorem call_iterT0 {t : Addr} {items : Array Value} {Q : Value → Shared → Prop} (hl : s.heap.IsTuple t items) (h : Q (.ref s.heap.objs.size) { s with heap := s.heap.push { cls := .type "tuple_iterator", data := .fields #[.ref t, .int 0 0] } }) : wpAny (model prog w) A (call (.builtin "iter") [.ref t]) Q E s := by
  refine Calls.call_function_entry (by decide +kernel) (by decide +kernel) PySem.W.kdk_entry_iter (PySem.W.kdk_args_iter _) ?_
  unfold Builtin.«iter»
  refine wpAny_bind (m := someArgs "iter" 1 2 _) (wpAny_of_eq (a := [Value.ref t]) (by first | rfl | kernel_rfl!) ?_)
  show wpAny _ _ (pyIter (.ref t) >>= _) _ _ _
  refine wpAny_bind (wpAny_pyIter_tuple hl ?_)
  exact wpAny_pure ⟨_, rfl, h⟩
/-- the end, with the iterator still there -/
theorem next_tuple_end {it t : Addr} {i : Nat} {items : Array Value} {Q : Option Value → Shared → Prop} (hh : A.handled = none)
    (hit : s.heap.IsTupleIter it t i) (ht : s.heap.IsTuple t items) (hx : items[i]? = none)
    (hQ : ∀ h', Heap.ExtBut it s.heap h' → (∃ o, h'.get? it = some o) → Q none { s with heap := h' }) : wpAny (model prog w) A (pyNext (.ref it)) Q E s := by
  obtain ⟨o, ho, hc, hd⟩ := id hit
  obtain ⟨ol, hol, _, nl, hdl⟩ := ht
  unfold pyNext
  refine wpAny_bind (wpAny_attempt (wpAny_callSpecial?_slot (name := Str.ofString "__next__") hit.typeIs PySem.F.slot_tuple_iterator_next
    (wpAny_call_entry PySem.F.slot_tuple_iterator_next hit.typeIs PySem.F.entry_tuple_iterator_next ?_ (PySem.F.args_tuple_iterator_next_1 _))))
  show wpAny _ _ (field (.ref it) 0 >>= _) _ _ s
  refine wpAny_bind (wpAny_field ho hd (x := .ref t) rfl ?_)
  show wpAny _ _ (if (Value.ref t == Value.none) = true then _ else _) _ _ s
  rw [if_neg (show ¬ ((Value.ref t == Value.none) = true) from Bool.false_ne_true)]
  show wpAny _ _ (field (.ref it) 1 >>= _) _ _ s
  refine wpAny_bind (wpAny_field ho hd (x := .int i 0) rfl ?_)
  show wpAny _ _ (seqItems? (.ref t) >>= _) _ _ s
  refine wpAny_bind (wpAny_seqItems hol hdl ?_)
  simp only [Int.toNat_natCast, hx]
  refine wpAny_bind (wpAny_rule (wpAny_bind (wpAny_setField ho hd (by simp) ?_)))
  show wpAny _ _ (newExc (.type "StopIteration") [] >>= _) _ _ _
  refine wpAny_bind ?_
  simp only [newExc, newTuple]
  refine wpAny_bind (wpAny_newObj_type ?_ (by size_fits))
  refine wpAny_bind (m := firstArgMember _ _) (wpAny_of_eq (a := Value.none) (by first | rfl | (simp only [firstArgMember]; rfl)) ?_)
  refine wpAny_newObj_type ?_ (by size_fits)
  simp only [raiseNew]
  refine wpAny_bind (wpAny_handled ?_)
  first | rw [show A.in1.handled = none from hh] | rw [hh]
  refine wpAny_bind (wpAny_pure (wpAny_throw ?_))
  refine wpAny_bind (wpAny_isInstance (T := "StopIteration") (b := true) ⟨_, Heap.get?_push_size _ rfl, rfl⟩ isSubtype_stop ?_)
  refine wpAny_pure (hQ _ (((Heap.SameBut.update ..).extBut.push _).push _) ⟨_, Heap.get?_push_of_some _ (Heap.get?_push_of_some _ (Heap.get?_update_self _ ho (Obj.isFreed_of_fields (Obj.data_mapFields hd _))))⟩)
end
section
variable {X : Cx}
/-- iter(t) -/
def rIterT : List V → Hp → VK → Prop := fun xs H Q => ∃ t, xs = [.ref t] ∧ ∃ zs, FT H t zs ∧ ∀ it, H it = none → Q (.ref it) (upd H it (TItO t it 0))
theorem iter_T : CallR X (.builtin "iter") rIterT := by
  intro pins s σ H xs us Q I r h
  obtain ⟨t, rfl, zs, hq, q⟩ := h
  obtain ⟨u, rfl, ru⟩ := r.one
  cases ru
  obtain ⟨its, rv, pl, hz⟩ := I.tuple (xs := zs) hq.sq
  refine call_iterT0 pl ?_
  exact ⟨.ref s.heap.objs.size, _, I.laid (t' := s.toks) (fun b u e => Heap.get?_push_of_some _ e) (Nat.le_refl _) (titO_ok ⟨_, Heap.get?_push_size _ rfl, rfl, rfl⟩), rfl, q _ (I.hok.fresh (Nat.le_refl _))⟩
theorem upd_in {H : Hp} {a b : Addr} {o u v : HO} (h : a ≠ b) : upd (upd (upd H a o) b u) a v = upd (upd H a v) b u := by
  funext c
  unfold upd
  by_cases h1 : c = a
  · have h2 : c ≠ b := fun e => h (h1.symm.trans e)
    rw [if_pos h1, if_neg h2, if_pos h1]
  · rw [if_neg h1]
    by_cases h2 : c = b
    · rw [if_pos h2, if_pos h2]
    · rw [if_neg h2, if_neg h2, if_neg h1, if_neg h1]
variable {pins : List (Addr × Obj)} {σ : L2.St} {A1 : Around}
theorem tup_loop {H0 : Hp} {p it q : Addr} {ys : List V} {Rs : Result → Shared → Prop} (hh : A1.handled = none) (hiq : it ≠ q) (hpi : p ≠ it) (hpq : p ≠ q) (hp : FT H0 p ys) (hl : ys.length ≤ sizeLine)
    (hdone : ∀ s, Inv X pins σ (upd (upd H0 it (EndO it)) q (.lst ys)) s → Rs (.ok (.ret .none)) s) :
    ∀ (m i : Nat) (s : Shared), ys.length - i = m → i ≤ ys.length → Inv X pins σ (upd (upd H0 it (TItO p it i)) q (.lst (ys.take i))) s → codeAny (model X.prog X.w) A1 (.builtin "list.extend.loop" ⟨[.ref q, .ref it, .none], []⟩) Rs s := by
  intro m
  induction m with
  | zero =>
    intro i s hm hi I
    have ei : i = ys.length := by omega
    refine codeAny_builtin PySem.F.entry_extend_loop ?_
    rw [Around.under_plainId PySem.F.plain_extend_loop _]
    show wpAny _ A1.in1 (pyNext (.ref it) >>= _) _ _ s
    have hH : upd (upd H0 it (TItO p it i)) q (.lst (ys.take i)) it = some (TItO p it i) := by rw [upd_ne hiq, upd_same]
    have hP : FT (upd (upd H0 it (TItO p it i)) q (.lst (ys.take i))) p ys := by
      obtain ⟨ob, hp, hd⟩ := hp
      exact ⟨ob, by rw [upd_ne hpq, upd_ne hpi]; exact hp, hd⟩
    have hit : s.heap.IsTupleIter it p i := (I.hok it _ hH).1
    obtain ⟨its, rv, pl, hz⟩ := I.tuple (xs := ys) hP.sq
    refine wpAny_bind (next_tuple_end (A := A1.in1) hh hit pl (by rw [List.getElem?_toArray]; exact rv.none_of (by rw [ei]; exact List.getElem?_eq_none (Nat.le_refl _))) fun h' eb ex => ?_)
    refine wpAny_pure (hdone _ ?_)
    have mu : Mut (upd (upd H0 it (TItO p it i)) q (.lst (ys.take i)) it) := by rw [hH]; exact True.intro
    have I2 := I.write (x := it) (e := it) (t' := s.toks) mu (.inl rfl) (fun b o nb z => eb b o nb z) ex (endO_ok (H := upd (upd (upd H0 it (TItO p it i)) q (.lst (ys.take i))) it (EndO it)) ex)
    rw [upd_in hiq, ei, List.take_length] at I2
    exact I2
  | succ m ih =>
    intro i s hm hi I
    have hlt : i < ys.length := by omega
    refine codeAny_builtin PySem.F.entry_extend_loop ?_
    rw [Around.under_plainId PySem.F.plain_extend_loop _]
    show wpAny _ A1.in1 (pyNext (.ref it) >>= _) _ _ s
    have hH : upd (upd H0 it (TItO p it i)) q (.lst (ys.take i)) it = some (TItO p it i) := by rw [upd_ne hiq, upd_same]
    have hP : FT (upd (upd H0 it (TItO p it i)) q (.lst (ys.take i))) p ys := by
      obtain ⟨ob, hp, hd⟩ := hp
      exact ⟨ob, by rw [upd_ne hpq, upd_ne hpi]; exact hp, hd⟩
    have hit : s.heap.IsTupleIter it p i := (I.hok it _ hH).1
    obtain ⟨its, rv, pl, hz⟩ := I.tuple (xs := ys) hP.sq
    obtain ⟨u, hu, ru⟩ := rv.get (List.getElem?_eq_getElem hlt)
    refine wpAny_bind (wpAny_pyNext_tuple_item hit pl (x := u) (by rw [List.getElem?_toArray]; exact hu) fun h' e' sb => ?_)
    have mu : Mut (upd (upd H0 it (TItO p it i)) q (.lst (ys.take i)) it) := by rw [hH]; exact True.intro
    have ex : ∃ o, h'.get? it = some o := let ⟨o, ho, _⟩ := e'; ⟨o, ho⟩
    have I2 := I.write (x := it) (e := it) (t' := s.toks) mu (.inl rfl) (fun b o nb z => (sb.2 b nb).trans z) ex (titO_ok (H := upd (upd (upd H0 it (TItO p it i)) q (.lst (ys.take i))) it (TItO p it (i + 1))) e')
    rw [upd_in hiq] at I2
    have hq2 : upd (upd H0 it (TItO p it (i + 1))) q (.lst (ys.take i)) q = some (.lst (ys.take i)) := upd_same
    obtain ⟨z, its2, k, r2, hl2, e2⟩ := I2.lstM hq2
    show wpAny _ A1.in1 (updateSeq q (·.push u) >>= _) _ _ _
    have lt : (ys.take i).length = i := by rw [List.length_take]; omega
    refine wpAny_bind (wpAny_updateSeq e2 rfl (wpAny_pure ⟨plainId_quiet PySem.F.plain_extend_loop _, ?_⟩) (by rw [List.size_toArray]; omega) (by show (its2.toArray.push u).size ≤ sizeLine + 1; rw [Array.size_push, List.size_toArray]; omega))
    have I3 := I2.lset (f := (·.push u)) (its' := its2 ++ [u]) (ys := ys.take i ++ [ys[i]]) (t' := s.toks) hq2 e2 (by simp) (r2.append (.cons ru .nil)) (by rw [List.length_append, List.length_singleton]; omega)
    rw [upd_upd, List.take_append_getElem hlt] at I3
    exact ih (i + 1) _ (by omega) hlt I3
end
end Fx
namespace Fx
open PySem PySem.Spec PyProof.Rows L2
section
variable {X : Cx} {k : Nat} {C : Addr} {psI psL : List Str} {spI spL : Sp}
theorem run_fn0 {A : Around} {f : Addr} {fd : FuncData} {ps : List Str} {sp : Sp} {E' : Value → Shared → Prop} {pins : List (Addr × Obj)} {σ : L2.St} {H : Hp} {s : Shared} {Q : VK} {us : List Value} {vs : List V} (hA : A.frames = X.A.frames) (F : FnOk X.prog X.w X.K X.mg X.base CX0 k f fd ps sp) (hr : Room k A) (hb : Binds X.K fd ps [])
    (I : Inv X pins σ H s) (r : Vals vs us) (h : sp vs H Q E0) : wpAny (model X.prog X.w) A (call (.ref f) us) (EP X pins σ Q) E' s := by
  have e0 : Env0 X.prog X.w X.K X.mg X.base A X.stack s H := by
    have e := I.env0
    exact ⟨by rw [hA]; exact e.frames, e.mod, e.bs, e.bsz, e.funs, e.frf, e.hok, e.bare⟩
  have hl : us.length = ps.length := by rw [← r.length]; exact F.len _ _ _ _ h
  have b := hb s us I.kIn (by rw [List.append_nil]; exact hl)
  rw [List.append_nil] at b
  refine wpAny_call (codeAny_mono (F.run A X.stack s H ⟨us, []⟩ us vs Q E0 hr e0 b r h) fun r s' hq => ?_)
  cases r with
  | error e => exact False.elim hq
  | ok fl =>
    cases fl with
    | ret u => exact I.after hq
    | next => exact False.elim hq
    | brk => exact False.elim hq
    | cont => exact False.elim hq
/-- the own __len__ tells the length ahead of the filling -/
theorem own_hintL {A : Around} {pins : List (Addr × Obj)} {σ : L2.St} {H : Hp} {s : Shared} {a dx : Addr} {fs : List (Str × V)} {Q : Bool → Shared → Prop} (hA : A.frames = X.A.frames) (M : CalM X.prog X.w X.K X.mg X.base CX0 k C "__len__" psL spL) (hr : Room (k + 1) A) (I : Inv X pins σ H s) (ha : H a = some (.ins C dx fs))
    {R : Hp → Prop} (hsp : spL [.ref a] H (fun v H' => ∃ n, v = .int n ∧ 0 ≤ n ∧ n ≤ 1000000 ∧ R H') E0) (hq : ∀ b H' s', Inv X pins σ H' s' → R H' → Q b s') : wpAny (model X.prog X.w) A (Builtin.List.listLengthHint (.ref a)) Q X.xe s := by
  obtain ⟨f, fd, m, b, F⟩ := M.ex
  obtain ⟨ox, od, J⟩ := inst_at I ha
  obtain ⟨mm, hF⟩ := I.fr
  unfold Builtin.List.listLengthHint
  refine wpAny_bind (wpAny_bind (J.type.here ((PySem.W.looks_findIn I.kIn m.at_).here ?_)))
  refine PySem.W.KFB.if_not rfl ?_
  refine PySem.W.KFB.if_so rfl ?_
  refine wpAny_bind (wpAny_rule ?_)
  refine wpAny_bind (wpAny_attempt (PySem.W.len_K hF I.ok.mod.kin J m.at_ m.fn ?_))
  refine wpAny_mono (run_fn0 (E' := fun _ _ => False) (A := A.in1) (vs := [.ref a]) (us := [.ref a]) hA F hr.in1 b I (.cons rfl .nil) hsp) (fun v s' hv => ?_) fun _ _ z => z.elim
  obtain ⟨z, H', I', rz, n, rfl, h0, h1, r⟩ := hv
  obtain ⟨t, rfl⟩ := rz
  refine ⟨⟨h0, by omega⟩, ?_⟩
  have tl : Builtin.List.listTooLong n.toNat = false := by
    unfold Builtin.List.listTooLong
    rw [decide_eq_false_iff_not, sizeLine_eq]
    omega
  show wpAny _ _ (asInt? (.int n _) >>= _) _ _ _
  refine wpAny_bind (wpAny_of_eq (a := some n) (by first | rfl | (simp only [asInt?]; rfl)) ?_)
  refine PySem.W.KFB.if_not tl ?_
  exact wpAny_pure (hq _ H' _ (I'.tok _) r)
/-- list(o) -/
def rListO (C : Addr) (spI spL : Sp) : List V → Hp → VK → Prop := fun xs H Q => ∃ a, xs = [.ref a] ∧ ∃ dx fs, H a = some (.ins C dx fs) ∧ ∀ q, H q = none → spI [.ref a] (upd H q (.lst [])) (fun v H1 => ∃ it, v = .ref it ∧ ∃ p, H1 it = some (TItO p it 0) ∧ ∃ dx fs, H1 a = some (.ins C dx fs) ∧
  spL [.ref a] H1 (fun v2 H2 => ∃ n, v2 = .int n ∧ 0 ≤ n ∧ n ≤ 1000000 ∧ H2 it = some (TItO p it 0) ∧ H2 q = some (.lst []) ∧ ∃ ys, FT H2 p ys ∧ Q (.ref q) (upd (upd H2 it (EndO it)) q (.lst ys))) E0) E0
theorem list_O (MI : CalM X.prog X.w X.K X.mg X.base CX0 k C "__iter__" psI spI) (ML : CalM X.prog X.w X.K X.mg X.base CX0 k C "__len__" psL spL) (hc : X.calm = true) (hr : Room (k + 3) X.A) : CallR X (.type "list") (rListO C spI spL) := by
  intro pins s σ H xs us Q I rv h
  obtain ⟨a, rfl, dx, fs, ha, hq⟩ := h
  obtain ⟨u, rfl, ru⟩ := rv.one
  cases ru
  refine callType_codes (Q₁ := fun obj s₁ => obj = .ref s.heap.objs.size ∧ s₁ = { s with heap := s.heap.push { cls := .type "list", data := .seq #[] } }) PySem.F.called_list (PySem.F.typeCall_list_1 _) PySem.F.entry_list_init
    (code_list_new _ ⟨rfl, rfl⟩) fun obj s₁ h₁ => ?_
  obtain ⟨rfl, rfl⟩ := h₁
  have hS : (s.heap.push { cls := .type "list", data := .seq #[] }).get? s.heap.objs.size = some { cls := .type "list", data := .seq #[] } := Heap.get?_push_size _ rfl
  refine ⟨⟨_, hS, rfl⟩, PySem.F.args_list_init_2 _ _, ?_⟩
  have fr : H s.heap.objs.size = none := I.hok.fresh (Nat.le_refl _)
  have hq := hq _ fr
  have I1 : Inv X pins σ (upd H s.heap.objs.size (.lst [])) { s with heap := s.heap.push { cls := .type "list", data := .seq #[] } } := I.lnew (its := []) (t' := s.toks) .nil (Nat.zero_le _)
  show wpAny _ _ (do let old ← Builtin.List.listItems (.ref s.heap.objs.size); Builtin.List.listUpdate (.ref s.heap.objs.size) (fun _ => #[]); letGo old.toList.reverse; Builtin.List.listExtendWith (.ref s.heap.objs.size) (.ref a) .none) _ _ _
  refine wpAny_bind ?_
  unfold Builtin.List.listItems
  refine wpAny_bind (wpAny_seqItems hS rfl (wpAny_pure ?_))
  show wpAny _ _ (updateSeq s.heap.objs.size (fun _ => #[]) >>= fun _ => letGo (#[] : Array Value).toList.reverse >>= fun _ => Builtin.List.listExtendWith (.ref s.heap.objs.size) (.ref a) .none) _ _ _
  refine wpAny_bind (wpAny_updateSeq hS rfl ?_)
  have I2 := I1.lset (f := fun _ => #[]) (its := []) (its' := []) (ys := []) (t' := s.toks) upd_same hS rfl .nil (Nat.zero_le _)
  rw [upd_upd] at I2
  refine wpAny_bind (wpAny_letGo ?_)
  have ha2 : upd H s.heap.objs.size (.lst []) a = some (.ins C dx fs) := by rw [upd_ne (ne_of_none ha fr)]; exact ha
  generalize s.heap.objs.size = q at *
  have hne : q ≠ a := fun e => by
    rw [e, ha] at fr
    cases fr
  obtain ⟨fi, fdi, mi, bi, Fi⟩ := MI.ex
  obtain ⟨ox, od, J⟩ := inst_at I2 ha2
  obtain ⟨mm, hF⟩ := I2.fr
  have hr1 : Room k X.A.in1.in1 := (Room.in1 (Room.in1 hr)).mono (Nat.le_succ _)
  unfold Builtin.List.listExtendWith
  refine wpAny_bind (J.type.here ?_)
  have h1 : Builtin.List.listSameRef (.ref q) (.ref a) = false := by simp [Builtin.List.listSameRef, hne]
  have h2 : (Value.ref C == Value.type "list") = false := rfl
  have h3 : (Value.ref C == Value.type "tuple") = false := rfl
  simp only [h1, h2, h3, Bool.or_false, Bool.false_eq_true, if_false]
  refine wpAny_bind (PySem.W.owit_iter hF I2.ok.mod.kin J mi.at_ mi.fn ?_)
  refine wpAny_mono (run_fn0 (E' := fun _ _ => False) (A := X.A.in1.in1) (vs := [.ref a]) (us := [.ref a]) rfl Fi hr1 bi I2 (.cons rfl .nil) hq) (fun v s' hv => ?_) fun _ _ z => z.elim
  obtain ⟨z, H1, I3, rz, it, rfl, p, hit, dx1, fs1, ha3, hsp⟩ := hv
  cases rz
  have hit0 : s'.heap.IsTupleIter it p 0 := (I3.hok it _ hit).1
  unfold PySem.W.OwitIt
  refine wpAny_specialOf (name := Str.ofString "__next__") hit0.typeIs PySem.F.slot_tuple_iterator_next.lookup ?_
  refine wpAny_bind (wpAny_holding ?_)
  refine own_hintL (A := X.A.in1.in1) rfl ML ((Room.in1 (Room.in1 hr))) I3 ha3 (R := fun H2 => H2 it = some (TItO p it 0) ∧ H2 q = some (.lst []) ∧ ∃ ys, FT H2 p ys ∧ Q (.ref q) (upd (upd H2 it (EndO it)) q (.lst ys))) hsp (fun room H2 s2 I4 hR => ?_)
  obtain ⟨hi2, hq2, ys, hp2, hQ⟩ := hR
  have hiq : it ≠ q := ne_of hi2 hq2 (by unfold TItO; intro z; cases z)
  obtain ⟨obp, hpp, hpd⟩ := id hp2
  have hpi : p ≠ it := ne_of hpp hi2 (by unfold TItO; intro z; cases z)
  have hpq : p ≠ q := ne_of hpp hq2 (by intro z; cases z)
  have hl : ys.length ≤ sizeLine := (I4.hok p _ hpp).2.1
  have e0 : upd (upd H2 it (TItO p it 0)) q (.lst (ys.take 0)) = H2 := by
    funext c
    unfold upd
    by_cases h1 : c = q
    · rw [if_pos h1, h1]
      exact hq2.symm
    · rw [if_neg h1]
      by_cases h2 : c = it
      · rw [if_pos h2, h2]
        exact hi2.symm
      · rw [if_neg h2]
  have go : ∀ s3, Inv X pins σ H2 s3 → codeAny (model X.prog X.w) X.A.in1 (.builtin "list.extend.loop" ⟨[.ref q, .ref it, .none], []⟩) (wants (fun r s₂ => r = .none ∧ EP X pins σ Q (.ref q) s₂) X.xe) s3 := fun s3 I5 =>
    tup_loop (A1 := X.A.in1) (H0 := H2) (show X.A.in1.handled = none from I5.ok.hd hc) hiq hpi hpq hp2 hl (fun s4 I6 => ⟨rfl, .ref q, _, I6, rfl, hQ⟩) ys.length 0 s3 (by omega) (Nat.zero_le _) (by rw [e0]; exact I5)
  obtain ⟨z, its, kk, r3, hl3, e3⟩ := I4.lstM hq2
  cases r3
  refine wpAny_ite_split (fun _ => ?_) (fun _ => wpAny_pure ⟨plainId_quiet PySem.F.plain_extend_loop _, go _ I4⟩)
  refine wpAny_bind (wpAny_rule ?_)
  refine wpAny_bind ?_
  show wpAny _ _ (updateSeq q (·.push .none) >>= fun _ => updateSeq q (·.pop)) _ _ _
  refine wpAny_bind (wpAny_updateSeq e3 rfl ?_)
  have J2 := I4.lset (f := (·.push Value.none)) (its' := [Value.none]) (ys := [.non]) (t' := s2.toks) hq2 e3 (by simp) (.cons rfl .nil) (by rw [List.length_singleton, sizeLine_eq]; decide)
  obtain ⟨z4, its4, k4, r4, hl4, e4⟩ := J2.lstM upd_same
  obtain ⟨u4, rfl, ru4⟩ := r4.one
  refine wpAny_updateSeq e4 rfl ?_ (by show 1 ≤ sizeLine; rw [sizeLine_eq]; decide) (by show 0 ≤ sizeLine + 1; exact Nat.zero_le _)
  refine wpAny_pure ⟨plainId_quiet PySem.F.plain_extend_loop _, go _ ?_⟩
  have J3 := J2.lset (f := (·.pop)) (its := [u4]) (its' := []) (ys := []) (t' := s2.toks) upd_same e4 (by rfl) .nil (Nat.zero_le _)
  rw [upd_upd] at J3
  have hH : upd H2 q (.lst []) = H2 := by
    funext b
    by_cases hb : b = q
    · rw [hb, upd_same, hq2]
    · rw [upd_ne hb]
  rw [hH] at J3
  exact J3
end
end Fx
namespace Fx
open PySem PySem.Spec PyProof.Rows L2
/-! ### __init__ with one default -/
structure CalID (P : Program) (w : World) (K : PySem.W.Frag) (mg : Str → Option Value) (base : Heap) (CX : CXT) (k : Nat) (C : Addr) (ps : List Str) (dv : V) (sp : Sp) : Prop where
  ex : ∃ f fd ds, Mk K C f ∧ Binds K fd ps [] ∧ Vals [dv] ds ∧ Binds K fd ps ds ∧ FnOk P w K mg base CX k f fd ps sp
section
variable {P : Program} {w : World} {K : PySem.W.Frag} {mg : Str → Option Value} {base : Heap} {CX : CXT} {k : Nat} {C : Addr} {ps : List Str} {dv : V} {sp : Sp}
theorem CalID.full (M : CalID P w K mg base CX k C ps dv sp) : CalI P w K mg base CX k C ps sp := by
  obtain ⟨f, fd, ds, m, b, _, _, F⟩ := M.ex
  exact ⟨f, fd, m, b, F⟩
/-- how its parameters are bound: all are given; the last one lacks -/
abbrev BindD (x q : Str) (st : Stmt) (ps : List Str) (n j : Nat) : Prop := ∀ (T : Addr) (kV doc pm : Value) (an : Option Addr) (cdv ct : Value) (us its : List Value), us.length = n → its.length = 1 →
  ∃ k, bindArgs (PySem.W.fnOf x q (defArgs st) (defBody st) (defScope st) (.ref T) kV doc pm an cdv ct) ⟨us, []⟩ = seqItems? (.ref T) >>= k ∧ k (some its.toArray) = pure (ps.zip (us ++ its.drop j))
theorem calID_of {x q : Str} {st : Stmt} {f : Addr} {fd : FuncData} (F : FunD K x q (defArgs st) (defBody st) (defScope st) [dv] [] f fd) (M : Mk K C f) (n : Nat) (hn : n + 1 = ps.length) (b1 : BindD x q st ps (n + 1) 1) (b0 : BindD x q st ps n 0) (ok : FnOk P w K mg base CX k f fd ps sp) : CalID P w K mg base CX k C ps dv sp := by
  obtain ⟨ds1, v1, B1⟩ := F.binds1 (ps := ps) (n + 1) 1 (by simp) (by simpa using hn) b1
  obtain ⟨ds0, v0, B0⟩ := F.binds1 (ps := ps) n 0 (by simp) (by simpa using hn) b0
  have e : ds1 = [] := by
    cases v1
    rfl
  subst e
  exact ⟨f, fd, ds0, M, B1, v0, B0, ok⟩
theorem ok0D {x qual : Str} {st : Stmt} {N : List Str} {dvs : List V} {f : Addr} {fd : FuncData} (F : FunD K x qual (defArgs st) (defBody st) (defScope st) dvs [] f fd) (sc : FnScope N ps (defScope st)) (len : ∀ vs H Q E, sp vs H Q E → vs.length = ps.length)
    (hbody : ∀ (f : Addr) (cdv : Value) (A : Around) (outer : List Env) (s : Shared) (H : Hp) (vs : List V) (Q : VK) (E : XK), Room k (A.deeper (envOfC qual (defScope st) s.heap.objs.size f cdv)) → sp vs H Q E →
      ∃ t, PSs (cxOf CX0 P w K mg base N qual (defScope st) f cdv A outer s H E).nox (defBody st) t ∧ t { nx := fun _ H' => Q .non H', rt := Q } (L2.start N vs) H) : FnOk P w K mg base CX0 (k + 1) f fd ps sp := by
  refine F.ok sc len fun cdv A outer s H vs Q E hr hsp => ?_
  obtain ⟨t, h, q⟩ := hbody f cdv A outer s H vs Q E hr hsp
  exact ⟨t, h.nox, q⟩
theorem okXD {x qual : Str} {st : Stmt} {N : List Str} {dvs : List V} {f : Addr} {fd : FuncData} (F : FunD K x qual (defArgs st) (defBody st) (defScope st) dvs [] f fd) (sc : FnScope N ps (defScope st)) (len : ∀ vs H Q E, sp vs H Q E → vs.length = ps.length)
    (hbody : ∀ (f : Addr) (cdv : Value) (A : Around) (outer : List Env) (s : Shared) (H : Hp) (vs : List V) (Q : VK) (E : XK), Room k (A.deeper (envOfC qual (defScope st) s.heap.objs.size f cdv)) → sp vs H Q E →
      ∃ t, PSs (cxOf (L2.CX P w) P w K mg base N qual (defScope st) f cdv A outer s H E) (defBody st) t ∧ t { nx := fun _ H' => Q .non H', rt := Q } (L2.start N vs) H) : FnOk P w K mg base (L2.CX P w) (k + 1) f fd ps sp :=
  F.ok sc len fun cdv A outer s H vs Q E hr hsp => hbody f cdv A outer s H vs Q E hr hsp
end
section
variable {X : Cx} {x : Str} {C : Addr} {ps : List Str} {dv : V} {sp : Sp} {k : Nat} {CX : CXT} {E : XK} {e : Expr} {es : List Expr} {t : TA} {p pos : Pos}
/-- C(e, ..), the last one by its default -/
theorem pe_mkD (M : CalID X.prog X.w X.K X.mg X.base CX k C ps dv sp) (hr : Room (k + 1) X.A) (hm : X.mg x = some (.ref C)) (hx : Passes CX X E) (ha : PA X (e :: es) t) (hg : Gl X x := by rfl) (hdb : (x == ("__debug__" : Str)) = false := by decide)
    (hs : (e :: es).all nostar = true := by rfl) : PE X (.Call (.Name x p) (e :: es) [] pos) (tMake C sp [dv] E t) := by
  obtain ⟨f, fd, ds, m, _, vd, b, F⟩ := M.ex
  simp only [List.all_cons, Bool.and_eq_true] at hs
  exact pe_make m F hr hg hm b vd hx ha hdb (star_ok hs.1) (back_ok hs.2)
theorem pe_mkD0 (M : CalID X.prog X.w X.K X.mg X.base CX k C ps dv sp) (hr : Room (k + 1) X.A) (hm : X.mg x = some (.ref C)) (hx : Passes CX X E) (hg : Gl X x := by rfl) (hdb : (x == ("__debug__" : Str)) = false := by decide) : PE X (.Call (.Name x p) [] [] pos) (tMake C sp [dv] E tNil) := by
  obtain ⟨f, fd, ds, m, _, vd, b, F⟩ := M.ex
  exact pe_make0 m F hr hg hm b vd hx hdb
end
end Fx
/-! Lists and tuples of texts: sorted, in, index; list(dict) -/
namespace Fx
open PySem PySem.Spec PyProof.Rows L2
abbrev ms (l : List Str) : List V := l.map V.str
section
variable {X : Cx}
/-- sorted(xs), texts, any number of them -/
def rSortS : List V → Hp → VK → Prop := fun vs H Q => ∃ a, vs = [V.ref a] ∧ ∃ xs : List Str, H a = some (.lst (ms xs)) ∧ ∀ (ys : List Str) (p : Addr), ys.Perm xs → sortedS ys = true → H p = none → Q (.ref p) (upd H p (.lst (ms ys)))
theorem sort_S : CallR X (.builtin "sorted") rSortS := by
  intro pins s σ H vs us Q I r h
  obtain ⟨a, rfl, xs, hs, q⟩ := h
  obtain ⟨its, rv, hl, hz⟩ := I.list (xs := ms xs) (.inl (.inl hs))
  obtain ⟨u, rfl, ru⟩ := r.one
  cases ru
  have hlen0 := rv.length
  rw [List.length_map] at hlen0
  have hz2 : xs.length ≤ sizeLine := by
    have := hz
    rw [List.length_map] at this
    exact this
  refine PyProof.Rows.sorted_strsAny hl.isList rv.strs (by rw [← hlen0]; exact hz2) fun out ys h1 h2 h3 => ?_
  obtain ⟨ep, he'⟩ := PyProof.Rows.sortedAll_at s.heap its out
  have hlen : (ms ys).length ≤ sizeLine := by rw [List.length_map, h2.length_eq]; exact hz2
  exact ⟨.ref _, upd H (s.heap.objs.size + 1) (.lst (ms ys)), I.laid (t' := s.toks) (fun _ _ => PyProof.Rows.sortedAll_old) (Nat.le_succ _) ⟨hlen, out.toList, ep, vals_of_strs h1, he'⟩, rfl, q ys _ h2 h3 (I.hok.fresh (Nat.le_succ _))⟩
theorem flat_ms (l : List Str) : (ms l).all flatV = true := by
  rw [List.all_map]
  exact List.all_eq_true.mpr fun _ _ => rfl
theorem in_ms (z : Str) (l : List Str) : inV (.str z) (ms l) = decide (z ∈ l) := by
  unfold inV
  rw [List.any_map]
  induction l with
  | nil => rfl
  | cons x l ih =>
    rw [List.any_cons, ih]
    show ((x == z) || _) = _
    by_cases e : x = z
    · subst e
      simp
    · have e2 : ¬ z = x := fun h => e h.symm
      simp [e, e2]
/-- z in a list or tuple of texts -/
def rInS (neg : Bool) : R2 := fun x y H Q => ∃ z p, x = .str z ∧ y = .ref p ∧ ∃ l : List Str, Sq H p (ms l) ∧ Q (.bl (if neg = true then !decide (z ∈ l) else decide (z ∈ l))) H
theorem in_S : OpR X (compareOp .In) (rInS false) := by
  intro pins s σ H x y v u Q I rx ry h
  obtain ⟨z, p, rfl, rfl, l, hq, q⟩ := h
  refine op_in_seq pins s σ H _ _ v u Q I rx ry ⟨p, ms l, rfl, hq.elim (fun h => .inl (.inl (.inl h))) (fun h => .inr (.inl (.inl h))), rfl, flat_ms l, ?_⟩
  rw [in_ms]
  exact q
theorem notIn_S : OpR X (compareOp .NotIn) (rInS true) := by
  intro pins s σ H x y v u Q I rx ry h
  obtain ⟨z, p, rfl, rfl, l, hq, q⟩ := h
  refine op_notIn_seq pins s σ H _ _ v u Q I rx ry ⟨p, ms l, rfl, hq.elim (fun h => .inl (.inl (.inl h))) (fun h => .inr (.inl (.inl h))), rfl, flat_ms l, ?_⟩
  rw [in_ms]
  exact q
/-- l.index(z): the first place -/
theorem first_at {z : Str} : ∀ {l : List Str}, z ∈ l → ∃ j, l[j]? = some z ∧ (∀ m, m < j → l[m]? ≠ some z) ∧ j = l.idxOf z
  | x :: l, h => by
    by_cases e : x = z
    · subst e
      exact ⟨0, rfl, fun m hm => absurd hm (Nat.not_lt_zero _), by simp⟩
    · have h' : z ∈ l := (List.mem_cons.mp h).resolve_left fun k => e k.symm
      obtain ⟨j, h1, h2, h3⟩ := first_at h'
      refine ⟨j + 1, by simpa using h1, fun m hm => ?_, ?_⟩
      · cases m with
        | zero => simpa using e
        | succ m => simpa using h2 m (by omega)
      · have e2 : (x == z) = false := by simpa using e
        rw [List.idxOf_cons, e2, h3]
        rfl
def rIdxT : V → List V → Hp → VK → Prop := fun x xs H Q => ∃ p z, x = .ref p ∧ xs = [.str z] ∧ ∃ l : List Str, H p = some (.tup (ms l)) ∧ z ∈ l ∧ Q (.int (l.idxOf z : Nat)) H
theorem idx_T : MtR X "tuple.index" rIdxT := by
  intro pins s σ H x xs v us Q I rx rxs h
  obtain ⟨p, z, rfl, rfl, l, hp, hm, q⟩ := h
  obtain ⟨j, h1, h2, rfl⟩ := first_at hm
  exact mt_tup_index pins s σ H _ _ v us Q I rx rxs ⟨p, l, z, _, rfl, rfl, .inl (.inl hp), h1, h2, q⟩
def rIdxL : V → List V → Hp → VK → Prop := fun x xs H Q => ∃ p z, x = .ref p ∧ xs = [.str z] ∧ ∃ l : List Str, H p = some (.lst (ms l)) ∧ z ∈ l ∧ Q (.int (l.idxOf z : Nat)) H
theorem idx_L : MtR X "list.index" rIdxL := by
  intro pins s σ H x xs v us Q I rx rxs h
  obtain ⟨p, z, rfl, rfl, l, hp, hm, q⟩ := h
  obtain ⟨j, h1, h2, rfl⟩ := first_at hm
  refine mt_index pins s σ H _ _ v us Q I rx rxs ⟨p, ms l, .str z, _, .str z, rfl, rfl, .inl (.inl hp), rfl, flat_ms l, by rw [List.getElem?_map, h1]; rfl, by show (z == z) = true; simp, fun m y hm hy => ?_, q⟩
  rw [List.getElem?_map] at hy
  cases e : l[m]? with
  | none => rw [e] at hy; cases hy
  | some w =>
    rw [e] at hy
    have ey : y = .str w := (Option.some.inj hy).symm
    subst ey
    show (w == z) = false
    have : w ≠ z := fun k => h2 m hm (by rw [e, k])
    simpa using this
end
/-! ### sorted lists of texts, in plain words -/
def sle (a b : Str) : Prop := a.cps.toList ≤ b.cps.toList
theorem sle_trans {a b c : Str} (h1 : sle a b) (h2 : sle b c) : sle a c := List.le_trans h1 h2
theorem sle_anti {a b : Str} (h1 : sle a b) (h2 : sle b a) : a = b := by
  have e := List.le_antisymm h1 h2
  cases a with
  | mk x =>
    cases b with
    | mk y =>
      have e2 : x = y := Array.toList_inj.mp e
      rw [e2]
theorem sle_of {a b : Str} (h : (!ltCps b.cps.toList a.cps.toList) = true) : sle a b := by
  rw [ltCps_eq] at h
  have h2 : ¬ (b.cps.toList < a.cps.toList) := by simpa using h
  exact List.not_lt.mp h2
theorem rising_pw : ∀ {l : List Str} {p : Str}, risingS p l = true → (p :: l).Pairwise sle
  | [], p, _ => by simp
  | x :: l, p, h => by
    obtain ⟨h1, h2⟩ := Bool.and_eq_true_iff.mp h
    have ih := rising_pw h2
    have hpx := sle_of h1
    refine List.Pairwise.cons (fun y hy => ?_) ih
    rcases List.mem_cons.mp hy with rfl | hy
    · exact hpx
    · exact sle_trans hpx ((List.pairwise_cons.mp ih).1 y hy)
theorem sorted_pw {l : List Str} (h : sortedS l = true) : l.Pairwise sle := by
  cases l with
  | nil => exact .nil
  | cons x l => exact rising_pw h
theorem pw_uniq : ∀ {l l' : List Str}, l.Pairwise sle → l'.Pairwise sle → l.Perm l' → l = l'
  | [], l', _, _, h => (List.nil_perm.mp h).symm
  | x :: l, [], _, _, h => absurd h (by simp)
  | x :: l, y :: l', h1, h2, h => by
    have e : x = y := by
      have hx : x ∈ y :: l' := h.mem_iff.mp List.mem_cons_self
      have hy : y ∈ x :: l := h.mem_iff.mpr List.mem_cons_self
      rcases List.mem_cons.mp hx with e | hx
      · exact e
      · rcases List.mem_cons.mp hy with e | hy
        · exact e.symm
        · exact sle_anti ((List.pairwise_cons.mp h1).1 y hy) ((List.pairwise_cons.mp h2).1 x hx)
    subst e
    rw [pw_uniq (List.pairwise_cons.mp h1).2 (List.pairwise_cons.mp h2).2 ((List.perm_cons x).mp h)]
/-- sorted, without doubles, with the same members: the same list -/
theorem sorted_uniq {l l' : List Str} (h1 : sortedS l = true) (h2 : sortedS l' = true) (n1 : l.Nodup) (n2 : l'.Nodup) (hm : ∀ z, z ∈ l ↔ z ∈ l') : l = l' :=
  pw_uniq (sorted_pw h1) (sorted_pw h2) ((List.perm_ext_iff_of_nodup n1 n2).mpr hm)
end Fx
namespace Fx
open PySem PySem.Spec PyProof.Rows L2
section
variable {X : Cx}
/-- t[i], len(t), z in t of a tuple whose object is known -/
def rIxF : R2 := fun x y H Q => ∃ p i, x = .ref p ∧ y = .int i ∧ ∃ xs, FT H p xs ∧ ∃ v, atI xs i = some v ∧ Q v H
theorem ix_F : IxR X rIxF := IxR.imp ix_tup fun x y H Q ⟨p, i, e1, e2, xs, h, v, a, q⟩ => ⟨p, xs, i, v, e1, e2, h.sq, a, q⟩
def rLenF : List V → Hp → VK → Prop := fun xs H Q => ∃ p, xs = [.ref p] ∧ ∃ ys, FT H p ys ∧ Q (.int ys.length) H
theorem len_F : CallR X (.builtin "len") rLenF := CallR.imp call_len_seq fun xs H Q ⟨p, e, ys, h, q⟩ => ⟨p, ys, e, .inr h.sq, q⟩
def rInF (neg : Bool) : R2 := fun x y H Q => ∃ z p, x = .str z ∧ y = .ref p ∧ ∃ l : List Str, FT H p (ms l) ∧ Q (.bl (if neg = true then !decide (z ∈ l) else decide (z ∈ l))) H
theorem in_F : OpR X (compareOp .In) (rInF false) := by
  intro pins s σ H x y v u Q I rx ry h
  obtain ⟨z, p, rfl, rfl, l, hq, q⟩ := h
  refine op_in_seq pins s σ H _ _ v u Q I rx ry ⟨p, ms l, rfl, .inr hq.sq, rfl, flat_ms l, ?_⟩
  rw [in_ms]
  exact q
theorem notIn_F : OpR X (compareOp .NotIn) (rInF true) := by
  intro pins s σ H x y v u Q I rx ry h
  obtain ⟨z, p, rfl, rfl, l, hq, q⟩ := h
  refine op_notIn_seq pins s σ H _ _ v u Q I rx ry ⟨p, ms l, rfl, .inr hq.sq, rfl, flat_ms l, ?_⟩
  rw [in_ms]
  exact q
def rIdxF : V → List V → Hp → VK → Prop := fun x xs H Q => ∃ p z, x = .ref p ∧ xs = [.str z] ∧ ∃ l : List Str, FT H p (ms l) ∧ z ∈ l ∧ Q (.int (l.idxOf z : Nat)) H
theorem idx_F : MtR X "tuple.index" rIdxF := by
  intro pins s σ H x xs v us Q I rx rxs h
  obtain ⟨p, z, rfl, rfl, l, hp, hm, q⟩ := h
  obtain ⟨j, h1, h2, rfl⟩ := first_at hm
  exact mt_tup_index pins s σ H _ _ v us Q I rx rxs ⟨p, l, z, _, rfl, rfl, hp.sq, h1, h2, q⟩
/-- t.m(e, ..) -/
def tBMF (r : V → List V → Hp → VK → Prop) (to : TE) (t : TA) : TE := fun σ H Q => to σ H fun x H1 => ∃ p, x = .ref p ∧ (∃ xs, FT H1 p xs) ∧ t σ H1 fun vs H2 => r x vs H2 Q
variable {o e : Expr} {es : List Expr} {to : TE} {t : TA} {name : Str} {apos cpos : Pos} {id : String} {r : V → List V → Hp → VK → Prop}
theorem pe_bmF (slot : Slot "tuple" name id) (hty : typeOf (.builtin id) = pure (.type "method_descriptor")) (hm : MtR X id r) (ho : PE X o to) (ha : PA X (e :: es) t)
    (hbase : attributeBase o name X.env (eval o X.env) = eval o X.env := by rfl)
    (hfew : ((backTo cpos (starEach (e :: es) X.env)).all (fun x => !x.1) && (backToKw cpos (keywordEach [] X.env)).all (fun x => x.1.isSome)
      && decide ((e :: es).length + ([] : List Keyword).length + (if ([] : List Keyword).isEmpty then 0 else 1) < 30)) = true := by rfl)
    (hline : (apos.endLine == cpos.line) = true := by rfl) (hs : starEach (e :: es) X.env = (false, eval e X.env) :: starEach es X.env := by rfl) (hplain : (backTo cpos (starEach es X.env)).any (·.1) = false := by rfl) :
    PE X (.Call (.Attribute o name apos) (e :: es) [] cpos) (tBMF r to t) := by
  refine ⟨fun pins s σ H Q I h => ?_⟩
  refine wpAny_Call_method_late hbase hfew hline rfl (thn (ho.run pins s σ H _ I h) fun v s1 ⟨x, H1, I1, r1, p, ex, ⟨xs, ob, hp, hd⟩, q1⟩ => ?_)
  subst ex
  obtain rfl : v = Value.ref p := r1
  have hob := (I1.hok p _ hp).1
  obtain ⟨_, its, _, o2, ho2, hc2, _⟩ := (I1.hok p _ hp).2
  have eo : o2 = ob := by
    rw [hob] at ho2
    exact (Option.some.inj ho2).symm
  subst eo
  refine ⟨"tuple", id, PySem.F.plainAttrs_tuple, slot, hty, ⟨o2, hob, hc2⟩, fun a e => ?_, ?_⟩
  · cases e
    exact ⟨o2, hob, hd⟩
  have hA := ha.run cpos pins s1 σ H1 _ I1 q1
  rw [hs] at hA ⊢
  refine Calls.callWith_builtin (by show (false || (backTo cpos (starEach es X.env)).any (·.1)) = false; rw [hplain] <;> rfl) (Calls.evalArgs_plain ?_)
  exact thn hA fun us s2 ⟨vs, H2, I2, r2, q2⟩ => hm pins s2 σ H2 (.ref p) vs (.ref p) us Q I2 rfl r2 q2
/-- t == u -/
def rEqF : R2 := fun x y H Q => ∃ p q, x = .ref p ∧ y = .ref q ∧ ∃ xs ys, FT H p xs ∧ FT H q ys ∧ xs.all isF = true ∧ ys.all isF = true ∧ Q (.bl (decide (xs = ys))) H
theorem eq_FF (hu : X.A.units + 64 < cLine) : OpR X (compareOp .Eq) rEqF := by
  intro pins s σ H x y v u Q I rx ry h
  obtain ⟨p, q, rfl, rfl, xs, ys, hp, hq, fx, fy, k⟩ := h
  refine op_eqD hu pins s σ H _ _ v u Q I rx ry ⟨.tuple (xs.map datV), .tuple (ys.map datV), .tup hp.sq (dpAll_dat fx), .tup hq.sq (dpAll_dat fy), shaped_flatT fx, shaped_flatT fy, ?_⟩
  rw [PyData.eqv, eqvAll_dat fx fy]
  exact k
end
theorem ms_inj {a b : List Str} : ms a = ms b ↔ a = b := by
  constructor
  · intro h
    induction a generalizing b with
    | nil => cases b with
      | nil => rfl
      | cons y b => cases h
    | cons x a ih => cases b with
      | nil => cases h
      | cons y b =>
        simp only [ms, List.map_cons, List.cons.injEq, V.str.injEq] at h
        rw [h.1, ih h.2]
  · intro h
    rw [h]
end Fx
namespace Fx
open PySem PySem.Spec PyProof.Rows L2
/-- e.f with the written part named: inside a comprehension the reading must not lean on its context -/
theorem pe_fldK {X : Cx} {K : PySem.W.Frag} {e : Expr} {f : Str} {ta : TE} {pos : Pos} (hK : X.K = K) (he : PE X e ta) (hb : attributeBase e f X.env (eval e X.env) = eval e X.env) : PE X (.Attribute e f pos) (tFld K ta f) := by
  subst hK
  exact pe_fld he hb
end Fx
/-! Data that repr shows: rows of little data -/
namespace Fx
open PySem PySem.Spec PyProof.Rows L2
/-- little data: depth and shown length -/
structure Sm (d : PyData) (m k : Nat) : Prop where
  sh : d.showable = true
  nd : d.hasDict = false
  dep : d.depth ≤ m
  len : d.shown.length ≤ k
  ok : PyData.strOk d.shown = true
theorem Sm.mono {d : PyData} {m k m' k' : Nat} (h : Sm d m k) (hm : m ≤ m') (hk : k ≤ k') : Sm d m' k' := ⟨h.sh, h.nd, Nat.le_trans h.dep hm, Nat.le_trans h.len hk, h.ok⟩
theorem ok_app {a b : Str} (ha : PyData.strOk a = true) (hb : PyData.strOk b = true) : PyData.strOk (a ++ b) = true := by
  unfold PyData.strOk at *
  show (a.cps ++ b.cps).all _ = true
  rw [Array.all_append, ha, hb]
  rfl
theorem textFrom_ok : ∀ (ts : List Str) (n : Nat) (h : Str), (∀ t ∈ ts, PyData.strOk t = true) → PyData.strOk h = true → PyData.strOk (textFrom n h ts) = true
  | [], _, h, _, hh => hh
  | t :: ts, n, h, ht, hh => by
    have h1 := ht t List.mem_cons_self
    have c : PyData.strOk ", " = true := by decide +kernel
    unfold textFrom
    refine textFrom_ok ts _ _ (fun x hx => ht x (List.mem_cons_of_mem _ hx)) ?_
    first
    | (split
       · exact ok_app (ok_app hh c) h1
       · exact ok_app hh h1)
    | exact ok_app (ok_app hh c) h1
theorem listText_ok {ts : List Str} (ht : ∀ t ∈ ts, PyData.strOk t = true) : PyData.strOk (listText ts) = true := ok_app (textFrom_ok ts 0 "[" ht (by decide +kernel)) (by decide +kernel)
theorem sum_le {ts : List Str} {k : Nat} (h : ∀ t ∈ ts, t.length ≤ k) : (ts.map (·.length)).sum ≤ ts.length * k := by
  induction ts with
  | nil => simp
  | cons t ts ih =>
    rw [List.map_cons, List.sum_cons, List.length_cons, Nat.add_mul]
    have := ih fun x hx => h x (List.mem_cons_of_mem _ hx)
    have := h t List.mem_cons_self
    omega
theorem smAll {ds : List PyData} {m k : Nat} (h : ∀ d ∈ ds, Sm d m k) : PyData.showableAll ds = true ∧ PyData.hasDictAll ds = false ∧ PyData.depthAll ds ≤ m := by
  induction ds with
  | nil => exact ⟨by simp [PyData.showableAll], by simp [PyData.hasDictAll], by simp [PyData.depthAll]⟩
  | cons d ds ih =>
    obtain ⟨h1, h2, h3⟩ := ih fun x hx => h x (List.mem_cons_of_mem _ hx)
    have hd := h d List.mem_cons_self
    refine ⟨by simp only [PyData.showableAll, hd.sh, h1, Bool.and_self], by simp only [PyData.hasDictAll, hd.nd, h2, Bool.or_self], ?_⟩
    simp only [PyData.depthAll]
    exact Nat.max_le.mpr ⟨hd.dep, h3⟩
theorem sm_list {ds : List PyData} {m k : Nat} (h : ∀ d ∈ ds, Sm d m k) : Sm (.list ds) (m + 1) (ds.length * (k + 2) + 3) := by
  obtain ⟨h1, h2, h3⟩ := smAll h
  have hall : ∀ t ∈ PyData.shownAll ds, t.length ≤ k ∧ PyData.strOk t = true := by
    rw [shownAll_eq_map]
    intro t ht
    obtain ⟨d, hd, rfl⟩ := List.mem_map.mp ht
    exact ⟨(h d hd).len, (h d hd).ok⟩
  refine ⟨by simp only [PyData.showable, h1], by simp only [PyData.hasDict, h2], by simp only [PyData.depth]; omega, ?_, ?_⟩
  · simp only [PyData.shown]
    have a := listText_len_le (PyData.shownAll ds)
    have b := sum_le fun t ht => (hall t ht).1
    have c := PyData.shownAll_length ds
    rw [c] at a b
    have e : ds.length * (k + 2) = ds.length * k + ds.length * 2 := Nat.mul_add ..
    omega
  · simp only [PyData.shown]
    exact listText_ok fun t ht => (hall t ht).2
theorem join_ok : ∀ {ts : List Str}, (∀ t ∈ ts, PyData.strOk t = true) → PyData.strOk (Str.join ", " ts) = true
  | [], _ => by decide +kernel
  | [t], h => h t List.mem_cons_self
  | t :: u :: ts, h => ok_app (ok_app (h t List.mem_cons_self) (by decide +kernel)) (join_ok fun x hx => h x (List.mem_cons_of_mem _ hx))
theorem sm_tuple {ds : List PyData} {m k : Nat} (h : ∀ d ∈ ds, Sm d m k) : Sm (.tuple ds) (m + 1) (ds.length * (k + 2) + 3) := by
  obtain ⟨h1, h2, h3⟩ := smAll h
  have hall : ∀ t ∈ PyData.shownAll ds, t.length ≤ k ∧ PyData.strOk t = true := by
    rw [shownAll_eq_map]
    intro t ht
    obtain ⟨d, hd, rfl⟩ := List.mem_map.mp ht
    exact ⟨(h d hd).len, (h d hd).ok⟩
  refine ⟨by simp only [PyData.showable, h1], by simp only [PyData.hasDict, h2], by simp only [PyData.depth]; omega, ?_, ?_⟩
  · simp only [PyData.shown]
    have a := tupleText_len_le (PyData.shownAll ds)
    have b := sum_le fun t ht => (hall t ht).1
    have c := PyData.shownAll_length ds
    rw [c] at a b
    have e : ds.length * (k + 2) = ds.length * k + ds.length * 2 := Nat.mul_add ..
    omega
  · simp only [PyData.shown]
    unfold tupleText
    have j := join_ok fun t ht => (hall t ht).2
    have o : PyData.strOk "(" = true := by decide +kernel
    have c1 : PyData.strOk ",)" = true := by decide +kernel
    have c2 : PyData.strOk ")" = true := by decide +kernel
    split
    · exact ok_app (ok_app o j) c1
    · exact ok_app (ok_app o j) c2
theorem Sm.shw {K : PySem.W.Frag} {H : Hp} {v : V} {d : PyData} {m k : Nat} (h : Sm d m k) (hd : Dp K H v d) (hm : m ≤ 50) (hk : k ≤ 1000000) : Shw K H v d := ⟨hd, h.sh, h.nd, Nat.le_trans h.dep hm, Nat.le_trans h.len (Nat.le_trans hk (by decide)), h.ok⟩
theorem dpAll_app {K : PySem.W.Frag} {H : Hp} : ∀ {xs : List V} {ds : List PyData} {ys : List V} {es : List PyData}, DpAll K H xs ds → DpAll K H ys es → DpAll K H (xs ++ ys) (ds ++ es)
  | _, _, _, _, .nil, h => h
  | _, _, _, _, .cons h r, h2 => .cons h (dpAll_app r h2)
theorem dpAll_ms {K : PySem.W.Frag} {H : Hp} : ∀ l : List Str, DpAll K H (ms l) (l.map .str)
  | [] => .nil
  | z :: l => .cons (.str z) (dpAll_ms l)
theorem dpAll_ints {K : PySem.W.Frag} {H : Hp} : ∀ l : List Int, DpAll K H (l.map V.int) (l.map .int)
  | [] => .nil
  | z :: l => .cons (.int z) (dpAll_ints l)
theorem ofString_ok (s : String) : PyData.strOk (Str.ofString s) = true := by
  unfold PyData.strOk
  rw [PySem.Str.ofString_eq_toList, ← Array.all_toList, List.all_eq_true]
  intro x hx
  have hx2 : x ∈ s.toList.map Char.toNat := by simpa using hx
  obtain ⟨c, _, rfl⟩ := List.mem_map.mp hx2
  have h := c.valid
  unfold UInt32.isValidChar Nat.isValidChar at h
  have e : c.toNat = c.val.toNat := rfl
  rw [e]
  exact decide_eq_true (by omega)
theorem sm_int {i : Int} (h1 : -999999999999 ≤ i) (h2 : i ≤ 999999999999) : Sm (.int i) 0 13 := by
  refine ⟨?_, by simp [PyData.hasDict], by simp [PyData.depth], PyData.shown_int_le2 h1 h2, ?_⟩
  · simp only [PyData.showable]
    exact decide_eq_true (Nat.lt_trans (PySem.Flt.log2_lt_of (k := 64) (by decide) (show i.natAbs < 2 ^ 64 by omega)) (by decide))
  · simp only [PyData.shown]
    exact ofString_ok _
theorem sm_non : Sm .none 0 4 := ⟨by decide, by decide, by decide, by decide, by decide +kernel⟩
theorem sm_bl (b : Bool) : Sm (.bool b) 0 5 := by cases b <;> exact ⟨by decide, by decide, by decide, by decide, by decide +kernel⟩
theorem repr_char : ∀ c < 256, ∀ q ∈ [34, 39], (PySem.Builtin.Str.reprChar q c).all (· < 0x110000) = true := by decide +kernel
theorem sm_str {z : Str} (h : ∀ c ∈ z.cps.toList, c < 256) : Sm (.str z) 0 (10 * z.length + 2) := by
  refine ⟨by simp [PyData.showable], by simp [PyData.hasDict], by simp [PyData.depth], by simp only [PyData.shown]; exact StrLaws.reprText_len z fun c hc => Nat.lt_trans (h c hc) (by decide), ?_⟩
  simp only [PyData.shown]
  have hq : reprQuote z ∈ [34, 39] := by
    unfold reprQuote
    split <;> simp
  have hq2 : decide (reprQuote z < 0x110000) = true := by
    rcases (by simpa using hq : reprQuote z = 34 ∨ reprQuote z = 39) with e | e <;> rw [e] <;> rfl
  have key : ∀ (l : List Nat) (acc : Array Nat), (∀ c ∈ l, c < 256) → acc.all (· < 0x110000) = true → (l.foldl (fun out c => out ++ (PySem.Builtin.Str.reprChar (reprQuote z) c).toArray) acc).all (· < 0x110000) = true := by
    intro l
    induction l with
    | nil => intro acc _ h; exact h
    | cons c l ih =>
      intro acc hl ha
      rw [List.foldl_cons]
      refine ih _ (fun x hx => hl x (List.mem_cons_of_mem _ hx)) ?_
      rw [Array.all_append, ha, ← Array.all_toList]
      exact repr_char c (hl c List.mem_cons_self) _ hq
  unfold PyData.strOk reprText
  show ((z.cps.foldl (fun out c => out ++ (PySem.Builtin.Str.reprChar (reprQuote z) c).toArray) #[reprQuote z]).push (reprQuote z)).all _ = true
  rw [Array.all_push, ← Array.foldl_toList, key z.cps.toList _ h (by simpa using hq2), hq2]
  rfl
end Fx
/-! Sets of texts: {e for x in xs}, sorted of them -/
namespace Fx
open PySem PySem.Spec PyProof.Rows L2
theorem is_self (z : Str) (tk : Tok) : keyIs (.inr z) (.str z tk) = true := by
  show (z == z) = true
  simp
def zOf (e : Int × Value) : Str := match e.2 with
  | .str z _ => z
  | _ => ""
def TxtE (w : World) (e : Int × Value) : Prop := ∃ z tk, e.2 = Value.str z tk ∧ e.1 = keyH w (.inr z)
/-- the set of texts at a; L its members, each once -/
def SetS (w : World) (h : Heap) (a : Addr) (L : List Str) : Prop := ∃ (o : Obj) (es : Array (Int × Value)) (ep : Nat) (t : SetTable), h.get? a = some o ∧ o.ExactSet ∧ o.data = .set es ep t ∧ (∀ e ∈ es.toList, TxtE w e) ∧
  (es.toList.map zOf).Perm L ∧ L.Nodup ∧ es.size < scanBound ∧ t.fits es.size = true ∧ Ris t.place.toList ∧ (w.params.followText "set-order" = true ∨ t.led = true)
section
variable {P : Program} {w : World} {A : Around} {E : Value → Shared → Prop} {s : Shared} {h h' : Heap} {a : Addr} {L : List Str}
theorem SetS.keep (R : SetS w h a L) (k : ∀ o, h.get? a = some o → h'.get? a = some o) : SetS w h' a L := let ⟨o, es, ep, t, ho, r⟩ := R; ⟨o, es, ep, t, k o ho, r⟩
theorem mem_z {l : List (Int × Value)} (g : ∀ e ∈ l, TxtE w e) (z : Str) : z ∈ l.map zOf ↔ ∃ e ∈ l, (mixKind P w).is (.inr z) e.2 = true := by
  constructor
  · intro hz
    obtain ⟨e, he, ez⟩ := List.mem_map.mp hz
    obtain ⟨y, tk, e1, e2⟩ := g e he
    have ey : zOf e = y := by unfold zOf; rw [e1]
    refine ⟨e, he, ?_⟩
    rw [e1, ← ez, ey]
    exact is_self y tk
  · rintro ⟨e, he, hi⟩
    obtain ⟨y, tk, e1, e2⟩ := g e he
    refine List.mem_map.mpr ⟨e, he, ?_⟩
    rcases keyIs_shape (k := .inr z) (v := e.2) hi with ⟨i, t, k1, k2⟩ | ⟨x, t, k1, k2⟩
    · cases k1
    · cases k1
      unfold zOf
      rw [k2]
theorem elems_z {l : List (Int × Value)} (g : ∀ e ∈ l, TxtE w e) : ElemsOf (mixKind P w) l := fun e he => by
  obtain ⟨z, tk, h1, h2⟩ := g e he
  exact ⟨⟨.inr z, by rw [h1]; exact is_self z tk, h2⟩, by rw [h1] <;> rfl⟩
theorem putS_at {o : Obj} {es es' : Array (Int × Value)} {ep : Nat} {t t' : SetTable} (ho : h.get? a = some o) (hd : o.data = .set es ep t) : (h.update a (Obj.putSet es' t')).get? a = some { o with data := .set es' (ep + 1) t' } := by
  have q := Heap.get?_update_self (Obj.putSet es' t') ho (by rw [putSet_of es' t' hd] <;> rfl)
  rwa [putSet_of es' t' hd] at q
theorem addS_tail {g : Bool → Sem Unit} {o : Obj} {es es1 : Array (Int × Value)} {ep : Nat} {t t2 : SetTable} {L1 : List Str} {wasDummy : Bool} {R : Option Bool → Shared → Prop}
    (hg : ∀ (b : Bool) (s₁ : Shared) (Q' : Unit → Shared → Prop), Q' () s₁ → wpAny (model P w) A (g b) Q' E s₁) (ho : s.heap.get? a = some o) (hex : o.ExactSet) (hd : o.data = .set es ep t) (g1 : ∀ e ∈ es1.toList, TxtE w e)
    (p1 : (es1.toList.map zOf).Perm L1) (nd1 : L1.Nodup) (hb1 : es1.size < scanBound) (hf2 : t2.fits es1.size = true) (hr : Ris t2.place.toList) (hl : w.params.followText "set-order" = true ∨ t2.led = true)
    (hR : ∀ h', Heap.SameBut a s.heap h' → SetS w h' a L1 → R (some true) { s with heap := h' }) :
    wpAny (model P w) A (do
      storeSet a es1 t2
      if (!wasDummy && t2.tooFull) = true then do g (relayAll t2 es1 (SetTable.grown es1.size)).2.2; storeSet a (relayAll t2 es1 (SetTable.grown es1.size)).1 (relayAll t2 es1 (SetTable.grown es1.size)).2.1; pure (some true)
      else pure (some true)) R E s := by
  have ho1 := putS_at (es' := es1) (t' := t2) ho hd
  have b1 := Heap.SameBut.update s.heap a (Obj.putSet es1 t2)
  refine wpAny_bind (wpAny_storeSet_of ho hd ?_ (fits_of_scanBound hb1))
  split
  · have pm := relayAll_perm t2 es1 (SetTable.grown es1.size)
    have hf3 := relayAll_fits t2 es1 (SetTable.grown es1.size)
    have hr3 := relayAll_ris t2 es1 (SetTable.grown es1.size)
    have hl3 := relayAll_led t2 es1 (SetTable.grown es1.size)
    rcases hZ : relayAll t2 es1 (SetTable.grown es1.size) with ⟨es2, t3, gave⟩
    rw [hZ] at pm hf3 hr3 hl3
    dsimp only at pm hf3 hr3 hl3 ⊢
    have hsz : es2.size = es1.size := by rw [← Array.length_toList, pm.length_eq, Array.length_toList]
    have hb2 : es2.size < scanBound := hsz ▸ hb1
    refine wpAny_bind (hg _ _ _ (wpAny_bind (wpAny_storeSet_of ho1 rfl ?_ (fits_of_scanBound hb2))))
    refine wpAny_pure (hR _ (b1.trans (Heap.SameBut.update _ a _)) ⟨_, es2, _, t3, putS_at (es' := es2) (t' := t3) ho1 rfl, hex, rfl, fun e he => g1 e (pm.mem_iff.mp he), (pm.map zOf).trans p1, nd1, hb2, hf3, hr3, hl.imp id fun z => ?_⟩)
    rw [hl3]
    exact z
  · exact wpAny_pure (hR _ b1 ⟨_, es1, _, t2, ho1, hex, rfl, g1, p1, nd1, hb1, hf2, hr, hl⟩)
/-- with one more -/
def plus (L : List Str) (z : Str) : List Str := if z ∈ L then L else z :: L
theorem addS_hashed {z : Str} {tk : Tok} {Q : Bool → Shared → Prop} (R : SetS w s.heap a L) (room : L.length + 1 < scanBound)
    (hQ : ∀ h' b, Heap.SameBut a s.heap h' → SetS w h' a (plus L z) → Q b { s with heap := h' }) : wpAny (model P w) A (setAddHashed a (.str z tk) ((mixKind P w).hash (.inr z))) Q E s := by
  obtain ⟨o, es, ep, t, ho, hex, hd, g, pL, nd, hb, hf, hr, hl⟩ := R
  have hkey : (mixKind P w).is (.inr z) (.str z tk) = true := is_self z tk
  have hsc : (Value.str z tk).scannable = true := rfl
  have hel : ElemsOf (mixKind P w) es.toList := elems_z g
  have hn : es.size = L.length := by rw [← Array.length_toList, ← List.length_map (f := zOf), pL.length_eq]
  unfold setAddHashed setAddHashedIn
  refine wpAny_holding (wpAny_bind (wpAny_setState_of ho hd hf ?_))
  dsimp only
  rw [byScan_of hsc hb hel, if_pos rfl]
  unfold setAddByScan
  refine wpAny_bind (wpAny_bind (wpAny_rule (wpAny_bind (wpAny_setScan_of hkey ho hd hf hel ?_))))
  cases hfi : List.findIdx? (fun e => (mixKind P w).is (.inr z) e.2) es.toList with
  | some j =>
    dsimp only
    obtain ⟨hj, pj, _⟩ := List.findIdx?_eq_some_iff_getElem.mp hfi
    have hz : z ∈ L := pL.mem_iff.mp ((mem_z (P := P) g z).mpr ⟨es.toList[j], List.getElem_mem hj, pj⟩)
    refine wpAny_pure (wpAny_pure (hQ s.heap _ (Heap.SameBut.refl a s.heap) ?_))
    unfold plus
    rw [if_pos hz]
    exact ⟨o, es, ep, t, ho, hex, hd, g, pL, nd, hb, hf, hr, hl⟩
  | none =>
    dsimp only
    have hz : z ∉ L := fun k => by
      obtain ⟨e, he, q⟩ := (mem_z (P := P) g z).mp (pL.mem_iff.mpr k)
      exact Bool.noConfusion ((List.findIdx?_eq_none_iff.mp hfi e he).symm.trans q)
    have hgw : ∀ (b : Bool) {s₁ : Shared} {Q' : Unit → Shared → Prop}, Q' () s₁ → wpAny (model P w) A (match b with | true => rule "set.scan.the-table-gave-way" | false => pure ()) Q' E s₁ := by
      intro b s₁ Q' q
      cases b
      · exact wpAny_pure q
      · exact wpAny_rule q
    have pm := layNew_perm t es ((mixKind P w).hash (.inr z)) (.str z tk)
    have hf1 := layNew_fits t es ((mixKind P w).hash (.inr z)) (.str z tk)
    have hr1 := layNew_ris t es ((mixKind P w).hash (.inr z)) (.str z tk) hr
    have hl1 := layNew_led t es ((mixKind P w).hash (.inr z)) (.str z tk)
    rcases hZ : layNew t es ((mixKind P w).hash (.inr z)) (.str z tk) with ⟨es1, t1, wasDummy, gave⟩
    rw [hZ] at pm hf1 hr1 hl1
    dsimp only at pm hf1 hr1 hl1 ⊢
    rw [Array.toList_push] at pm
    have pc : es1.toList.Perm (((mixKind P w).hash (.inr z), Value.str z tk) :: es.toList) := pm.trans (List.perm_append_singleton _ _)
    have pk : (es1.toList.map zOf).Perm (z :: L) := (pc.map zOf).trans (pL.cons z)
    have g1 : ∀ e ∈ es1.toList, TxtE w e := by
      intro e he
      rcases List.mem_cons.mp (pc.mem_iff.mp he) with q | q
      · exact q ▸ ⟨z, tk, rfl, rfl⟩
      · exact g e q
    have nd1 : (z :: L).Nodup := List.nodup_cons.mpr ⟨hz, nd⟩
    have hb1 : es1.size < scanBound := by rw [← Array.length_toList, pc.length_eq, List.length_cons, Array.length_toList, hn]; exact room
    have hled : w.params.followText "set-order" = true ∨ t1.led = true := hl.imp id fun q => by rw [hl1]; exact q
    have fin : ∀ h' b, Heap.SameBut a s.heap h' → SetS w h' a (z :: L) → Q b { s with heap := h' } := fun h' b sb r => hQ h' b sb (by unfold plus; rw [if_neg hz]; exact r)
    refine wpAny_bind (hgw _ ?_)
    split
    · refine wpAny_bind ?_
      rw [hashByValue_scannable 8 hsc]
      refine wpAny_pure ?_
      refine addS_tail (fun b s₁ Q' q => hgw b q) ho hex hd g1 pk nd1 hb1 ?_ ?_ ?_ fun h' sb r => ?_
      · first
        | exact hf1
        | (split
           · first | exact hf1 | exact SetTable.fits_plain_off hf1
           · first | exact hf1 | exact SetTable.fits_plain_off hf1)
      · first | exact hr1 | (split <;> exact hr1)
      · first | exact hled | (split <;> exact hled)
      · dsimp only
        exact wpAny_pure (fin h' _ sb r)
    · refine wpAny_bind (wpAny_pure ?_)
      simp only [↓reduceIte]
      exact addS_tail (fun b s₁ Q' q => hgw b q) ho hex hd g1 pk nd1 hb1 hf1 hr1 hled fun h' sb r => by dsimp only; exact wpAny_pure (fin h' _ sb r)
end
/-- found.add(z) -/
theorem addS {P : Program} {w : World} {A : Around} {E : Value → Shared → Prop} {s : Shared} {a : Addr} {L : List Str} {z : Str} {tk : Tok} {Q : Value → Shared → Prop} (R : SetS w s.heap a L) (room : L.length + 1 < scanBound)
    (hQ : ∀ h', Heap.SameBut a s.heap h' → SetS w h' a (plus L z) → Q .none { s with heap := h', toks := s.toks + 1 }) : wpAny (model P w) A (call (.builtin "set.add") [.ref a, .str z tk]) Q E s := by
  have ty : s.TypeIs (.ref a) "set" := let ⟨o, _, _, _, ho, hex, _⟩ := R; ⟨o, ho, hex.1⟩
  refine wpAny_call_entry PySem.F.slot_set_add ty PySem.F.entry_set_add ?_ (PySem.F.args_set_add_2 _ _)
  unfold Builtin.«set.add» Builtin.Frozenset.oneOther
  simp only [List.isEmpty_nil, bind_assoc]
  unfold Builtin.Frozenset.addrOf setAdd
  refine wpAny_bind (wpAny_pure ?_)
  try dsimp only
  refine wpAny_bind (wpAny_pure ?_)
  try dsimp only
  refine wpAny_bind (wpAny_holding (wpAny_bind ((mixKind P w).pyHash (k := .inr z) (is_self z tk) ?_)))
  exact addS_hashed (s := { s with toks := s.toks + 1 }) R room fun h' b sb r => wpAny_pure ⟨_, rfl, hQ h' sb r⟩
theorem freshS {h : Heap} (w : World) : SetS w (h.push { cls := .type "set", dict := none, data := .set #[] 0 (.fresh 0 0 (!w.params.followText "set-order")) }) h.objs.size [] := by
  refine ⟨_, #[], 0, _, Heap.get?_push_size _ rfl, ⟨rfl, rfl, rfl⟩, rfl, fun e he => by simp at he, .refl _, .nil, by decide, by rfl, List.Pairwise.nil, ?_⟩
  show w.params.followText "set-order" = true ∨ (!w.params.followText "set-order") = true
  cases w.params.followText "set-order" <;> simp
/-- the set of texts at a, as a tracked thing -/
def SetSO (w : World) (a : Addr) (L : List Str) : HO := .ext fun h => SetS w h a L
theorem setSO_ok {w : World} {P : Program} {H : Hp} {h : Heap} {a : Addr} {L : List Str} (R : SetS w h a L) : ObjOk P w H h a (SetSO w a L) := ⟨R, let ⟨o, _, _, _, ho, _⟩ := R; ⟨o, ho⟩, fun _ _ p k => SetS.keep p k⟩
theorem setSO_at {X : Cx} {pins : List (Addr × Obj)} {σ : L2.St} {H : Hp} {s : Shared} {a : Addr} {L : List Str} (I : Inv X pins σ H s) (ha : H a = some (SetSO X.w a L)) : SetS X.w s.heap a L := (I.hok a _ ha).1
theorem addSO {X : Cx} {pins : List (Addr × Obj)} {σ : L2.St} {H : Hp} {s : Shared} {E : Value → Shared → Prop} {D : Addr} {L : List Str} {z : Str} {tk : Tok} {Q : Value → Shared → Prop} (I : Inv X pins σ H s) (hD : H D = some (SetSO X.w D L)) (room : L.length + 1 < scanBound)
    (h : ∀ s', Inv X pins σ (upd H D (SetSO X.w D (plus L z))) s' → Q .none s') : wpAny (model X.prog X.w) X.A (call (.builtin "set.add") [.ref D, .str z tk]) Q E s := by
  refine addS (setSO_at I hD) room fun h' sb new => h _ (I.write (e := D) (t' := s.toks + 1) (by rw [hD]; trivial) (.inl rfl) (fun b u hb hu => (sb.2 b hb).trans hu) ?_ (setSO_ok new))
  obtain ⟨o, _, _, _, ho, _⟩ := new
  exact ⟨o, ho⟩
/-- {elt for target in iter if ..}, texts: D the new set -/
def tScS (w : World) (wi : TI) (g : TG) (tt : TT) (te : TE) (vs : List Nat) : TE := fun σ H Q => wi σ H fun J H1 => ∀ D, H1 D = none → ∃ W : Nat → Nat → Hp → Prop, (∃ m, W 0 m (upd H1 D (SetSO w D []))) ∧ ∀ i m H, W i m H →
  (J.stop i H ∧ Q (.ref D) H) ∨ (J.go i H ∧ ∃ Nx : Hp → Prop, (∀ H', Nx H' → ∃ m', m' < m ∧ W (i + 1) m' H') ∧ ∀ x H', J.yld i H x H' → g x (wipe σ vs) H' fun σ2 H2 => wipe σ2 vs = wipe σ vs ∧ tt σ2 H2 fun b H3 =>
    if b = true then te σ2 H3 fun y H4 => ∃ (z : Str) (L : List Str), y = .str z ∧ H4 D = some (SetSO w D L) ∧ L.length + 1 < scanBound ∧ Nx (upd H4 D (SetSO w D (plus L z))) else Nx H3)
section
variable {X : Cx} {elt tg iter : Expr} {ifs : List Expr} {scope : Scope} {own : List (PySem.Str × Nat)} {pos : Pos} {wi : TI} {g : TG} {tt : TT} {te : TE}
theorem coreS {pins : List (Addr × Obj)} {s : Shared} {σ : L2.St} {H : Hp} {Q : VK} {pos' : Pos} {use : Option (Value → Sem Unit)} {Qf : Value → Shared → Prop} (hc : X.calm = true) (hN : X.N.Nodup) (I : Inv X pins σ H s) (hi : PI X tg iter wi) (ok : BlkOk X.N X.env.scope scope own)
    (hg : ∀ (s : Shared) (H : Hp) (C : Addr) (cl : List (PySem.Str × Addr)) (fp : List Addr), PG (X.blk s H scope (compEnvC scope cl C X.env) fp) tg g)
    (ht : ∀ (s : Shared) (H : Hp) (C : Addr) (cl : List (PySem.Str × Addr)) (fp : List Addr), PTs (X.blk s H scope (compEnvC scope cl C X.env) fp) ifs tt)
    (he : ∀ (s : Shared) (H : Hp) (C : Addr) (cl : List (PySem.Str × Addr)) (fp : List Addr), PE (X.blk s H scope (compEnvC scope cl C X.env) fp) elt te) (hs : ∀ x, foldedSetIterable iter X.env x = pure x) (h : tScS X.w wi g tt te (own.map (·.2)) σ H Q)
    (hRR : ∀ D C s' m H', Inv X pins σ H' s' → Q (.ref D) H' → s'.heap.Ns C m → FpOk X pins H' C → compPost (model X.prog X.w) X.A X.xe use Qf (.ref D) C (.ok .next) s') :
    wpAny (model X.prog X.w) X.A (comprehension (.SetComp elt [⟨tg, iter, ifs, 0⟩] scope pos) scope X.env pos' (newSet (.type "set")) false (eval iter X.env) use) Qf X.xe s := by
  have fr : ∀ y ∈ scope.names, y.2 = .free → ∃ c, X.env.cells.lookup y.1 = some c := fun y hy e => by
    rcases ok.free y hy e with k | k <;> exact I.ok.has _ (by first | exact .inl k | exact .inr k)
  refine wpAny_comprehension_free (use := use) rfl hs (closure_ok fr) ok.kind (fun y hy e => by rw [ok.uniq y hy, e]) (thn (hi.run pins s σ H _ I h) fun xv s1 hx => thn hx fun itv s2 h2 => ?_)
  obtain ⟨it, fp, tn, J, H2, rfl, I2, T, st2, f2, q⟩ := h2
  refine PpSet.newSet_ok (newEnv_comp ?_)
  generalize hD : s2.heap.objs.size = D
  have hDn : H2 D = none := I2.hok.fresh (Nat.le_of_eq hD)
  obtain ⟨W, ⟨m0, w0⟩, turn⟩ := q D hDn
  generalize hs3 : ({ s2 with heap := s2.heap.push { cls := .type "set", dict := none, data := .set #[] 0 (.fresh 0 0 (!X.w.params.followText "set-order")) } } : Shared) = s3
  have h3 : s3.heap = s2.heap.push { cls := .type "set", dict := none, data := .set #[] 0 (.fresh 0 0 (!X.w.params.followText "set-order")) } := hs3 ▸ rfl
  have I3 : Inv X pins σ (upd H2 D (SetSO X.w D [])) s3 := by
    subst hs3
    refine I2.laid (t' := s2.toks) (fun b o e => Heap.get?_push_of_some _ e) (Nat.le_of_eq hD) ?_
    subst hD
    exact setSO_ok (freshS X.w)
  have sz : ∀ b ∈ fp, b < s2.heap.objs.size := fun b hb => let ⟨o, e, _⟩ := T.obj _ _ st2 b hb; Heap.lt_size e
  have f3 : ∀ b ∈ fp, FpOk X pins (upd H2 D (SetSO X.w D [])) b ∧ b < s3.heap.objs.size := fun b hb => by
    have lt := sz b hb
    refine ⟨⟨?_, (f2 b hb).2⟩, by rw [h3, Heap.size_push]; exact Nat.lt_succ_of_lt lt⟩
    rw [upd_ne (by rw [← hD]; exact Nat.ne_of_lt lt)]
    exact (f2 b hb).1
  have st3 : tn 0 s3.heap := T.keep _ _ _ st2 fun b _ o e => by rw [h3]; exact Heap.get?_push_of_some _ e
  have I4 := block_start I3 ok hN f3
  let cl := cellsFrom (s3.heap.objs.size + 1) scope.names (cloFrom X.env.cells scope.names [])
  have pg := hg s3 (upd H2 D (SetSO X.w D [])) s3.heap.objs.size cl fp
  have pt := ht s3 (upd H2 D (SetSO X.w D [])) s3.heap.objs.size cl fp
  have pe := he s3 (upd H2 D (SetSO X.w D [])) s3.heap.objs.size cl fp
  show codeAny _ _ (.compStart (.SetComp elt [⟨tg, iter, ifs, 0⟩] scope pos) 0 (.ref it) (.ref D) (compEnvC scope cl s3.heap.objs.size X.env)) (compPost (model X.prog X.w) X.A X.xe use Qf (.ref D) s3.heap.objs.size) { s3 with heap := pushCells (s3.heap.push { cls := .type "dict", data := .dict #[] }) scope.names }
  have nfp : ∀ b ∈ fp, (upd H2 D (SetSO X.w D [])) b = none := fun b hb => (f3 b hb).1.1
  generalize hce : compEnvC scope cl s3.heap.objs.size X.env = ce at pg pt pe ⊢
  have I4 : Inv (X.blk s3 (upd H2 D (SetSO X.w D [])) scope ce fp) [] (wipe σ (own.map (·.2))) (upd H2 D (SetSO X.w D [])) _ := hce ▸ I4
  have cL : ce.locals = s3.heap.objs.size := by subst hce; rfl
  generalize hH3 : upd H2 D (SetSO X.w D []) = H3 at I3 I4 pg pt pe w0 nfp f3
  generalize hs4 : ({ s3 with heap := pushCells (s3.heap.push { cls := .type "dict", data := .dict #[] }) scope.names } : Shared) = s4 at I4 ⊢
  have st4 : tn 0 s4.heap := T.keep _ _ _ st3 fun b _ o e => by rw [← hs4]; exact pushCells_keeps _ _ _ _ (Heap.get?_push_of_some _ e)
  have stat : ∀ {σ' : L2.St} {H' : Hp} {s' : Shared}, Inv (X.blk s3 H3 scope ce fp) [] σ' H' s' → (∀ b ∈ fp, H' b = none) → ∀ b ∈ fp, FpOk (X.blk s3 H3 scope ce fp) [] H' b := by
    intro σ' H' s' I' hn b hb
    exact ⟨hn b hb, (I'.ok.exf b hb).1, I'.ok.exfs b hb, .inl hb, fun x c e => (I'.ok.exf b hb).2 x c e, fun p hp => absurd (show p ∈ ([] : List (Addr × Obj)) ++ [] from hp) (by simp)⟩
  have loop : codeAny (model X.prog X.w) X.A (.compLoop (.SetComp elt [⟨tg, iter, ifs, 0⟩] scope pos) 0 (.ref it) (.ref D) ce) (compPost (model X.prog X.w) X.A X.xe use Qf (.ref D) s3.heap.objs.size) s4 := by
    refine PpSet.compLoopS_any (fun n s' => ∃ i H', Inv (X.blk s3 H3 scope ce fp) [] (wipe σ (own.map (·.2))) H' s' ∧ tn i s'.heap ∧ (∀ b ∈ fp, H' b = none) ∧ W i n H') (fun n s5 hI => ?_) m0 ⟨0, H3, I4, st4, nfp, w0⟩
    obtain ⟨i, H5, I5, st5, n5, w5⟩ := hI
    rcases turn i n H5 w5 with ⟨stop, qq⟩ | ⟨go, Nx, hNx, step⟩
    · refine thnF (T.done (X.blk s3 H3 scope ce fp) rfl rfl rfl hc i [] s5 _ H5 (fun _ _ => False) I5 (stat I5 n5) st5 stop) fun r s6 ⟨hr, I6⟩ => ?_
      subst hr
      have I7 : Inv X pins σ H5 s6 := I3.call' (ch := fp) I6.os I6.base I6.hok I6.bare fun b hb => ⟨(f3 b hb).1.2.2.2.1, (f3 b hb).1.2.1, (f3 b hb).1.2.2.2.2.1, (f3 b hb).1.2.2.2.2.2⟩
      have nC : H5 s3.heap.objs.size = none := cL ▸ (show H5 ce.locals = none from I6.free)
      obtain ⟨m, hn, _⟩ := I6.loc
      have hn : s6.heap.Ns ce.locals m := hn
      exact hRR D s3.heap.objs.size s6 m H5 I7 qq (cL ▸ hn) (I3.fpOk (Nat.le_refl _) nC)
    · refine thnF (T.item (X.blk s3 H3 scope ce fp) rfl rfl rfl hc i [] s5 _ H5 (fun _ _ => False) I5 (stat I5 n5) st5 go) fun r s6 ⟨u, hr, h6⟩ => ?_
      subst hr
      refine thnF h6 fun _ s7 ⟨x, H7, I7, r7, y7, st7, n7⟩ => ?_
      refine thnF (pg.run _ s7 _ H7 x u _ (I7.pinned (stat I7 n7) (T.obj _ _ st7)) r7 (step x H7 y7)) fun _ s8 ⟨σ8, H8, I8, hw8, q8⟩ => thnF (pt.run _ s8 σ8 H8 _ I8 q8) fun b s9 ⟨H9, I9, q9⟩ => ?_
      have fin : ∀ {s' : Shared} {H' : Hp}, Inv (X.blk s3 H3 scope ce fp) ([] ++ pinsAt fp s7.heap) σ8 H' s' → Nx H' → ∃ m, m < n ∧ ∃ i H', Inv (X.blk s3 H3 scope ce fp) [] (wipe σ (own.map (·.2))) H' s' ∧ tn i s'.heap ∧ (∀ b ∈ fp, H' b = none) ∧ W i m H' := by
        intro s' H' I' nx
        obtain ⟨m', hm, w'⟩ := hNx H' nx
        have pin' : ∀ b ∈ fp, ∀ o, s7.heap.get? b = some o → s'.heap.get? b = some o ∧ H' b = none := fun b hb o e => let k := I'.pin (b, o) (List.mem_append_right _ (List.mem_append_right _ (mem_pinsAt hb e))); ⟨k.1, k.2.1⟩
        refine ⟨m', hm, i + 1, H', (I'.unpinned (pins := [])).weak (by rw [← hw8, wipe_length]) (fun j v e => ?_), T.keep _ _ _ st7 fun b hb o e => (pin' b hb o e).1, fun b hb => ?_, w'⟩
        · exact (wipe_some (hw8 ▸ e)).1
        · obtain ⟨o, e, _⟩ := T.obj _ _ st7 b hb
          exact (pin' b hb o e).2
      cases b
      · simp only [Bool.false_eq_true, if_false] at q9 ⊢
        exact fin I9 q9
      · simp only [if_true] at q9 ⊢
        refine thnF (pe.run _ s9 σ8 H9 _ I9 q9) fun v s10 ⟨yv, H10, I10, r10, z, L0, ey, hD10, hz10, nx⟩ => ?_
        subst ey
        obtain ⟨tk, rfl⟩ := r10
        exact addSO (X := X.blk s3 H3 scope ce fp) I10 hD10 hz10 fun s11 I11 => fin I11 nx
  exact PpSet.codeAny_compStart_set loop (T.self X.A 0 _ _ _ st4 loop)
theorem pe_scS (hc : X.calm = true) (hN : X.N.Nodup) (hi : PI X tg iter wi) (ok : BlkOk X.N X.env.scope scope own) (hg : ∀ (s : Shared) (H : Hp) (C : Addr) (cl : List (PySem.Str × Addr)) (fp : List Addr), PG (X.blk s H scope (compEnvC scope cl C X.env) fp) tg g)
    (ht : ∀ (s : Shared) (H : Hp) (C : Addr) (cl : List (PySem.Str × Addr)) (fp : List Addr), PTs (X.blk s H scope (compEnvC scope cl C X.env) fp) ifs tt) (he : ∀ (s : Shared) (H : Hp) (C : Addr) (cl : List (PySem.Str × Addr)) (fp : List Addr), PE (X.blk s H scope (compEnvC scope cl C X.env) fp) elt te)
    (hs : ∀ x, foldedSetIterable iter X.env x = pure x := by intro _; rfl) : PE X (.SetComp elt [⟨tg, iter, ifs, 0⟩] scope pos) (tScS X.w wi g tt te (own.map (·.2))) := by
  refine ⟨fun pins s σ H Q I h => ?_⟩
  rw [PpSet.eval_SetComp]
  refine coreS hc hN I hi ok hg ht he hs h fun D C s' m H' I' q hn ⟨f0, f1, f2, f3, f4, f5⟩ => ⟨m, hn, fun h'' sb => ⟨.ref D, H', I'.turned (t' := s'.toks) (fun b o hb e => (sb.2 b hb).trans e) f0 f1 f3 f4 f5, rfl, q⟩⟩
end
/-- over a list or a tuple that the block leaves as it is -/
theorem sc_Q {w : World} {K : PySem.W.Frag} {a : Addr} {j : Nat} {xs : List V} {g : TG} {tt : TT} {te : TE} {vs : List Nat} {σ : L2.St} {H : Hp} {Q : VK} (hv : σ[j]? = some (some (.ref a))) (hq : SqL K H a xs ∨ SqT K H a xs) (Pv : Nat → Addr → Hp → Prop)
    (hS : ∀ i D H', Pv i D H' → (SqL K H a xs → SqL K H' a xs) ∧ (SqT K H a xs → SqT K H' a xs)) (h0 : ∀ D, H D = none → Pv 0 D (upd H D (SetSO w D [])))
    (hs : ∀ i D x H', xs[i]? = some x → Pv i D H' → g x (wipe σ vs) H' fun σ2 H2 => wipe σ2 vs = wipe σ vs ∧ tt σ2 H2 fun b H3 =>
      if b = true then te σ2 H3 fun y H4 => ∃ (z : Str) (L : List Str), y = .str z ∧ H4 D = some (SetSO w D L) ∧ L.length + 1 < scanBound ∧ Pv (i + 1) D (upd H4 D (SetSO w D (plus L z))) else Pv (i + 1) D H3)
    (hd : ∀ D H', Pv xs.length D H' → Q (.ref D) H') : tScS w (iQ K (tVar j)) g tt te vs σ H Q := by
  have run : ∀ (J : It) (D : Addr), H D = none → (∀ i H', Pv i D H' → i ≤ xs.length → (i < xs.length → J.go i H' ∧ ∀ x H'', J.yld i H' x H'' → H'' = H' ∧ xs[i]? = some x) ∧ (i = xs.length → J.stop i H')) → ∃ W : Nat → Nat → Hp → Prop, (∃ m, W 0 m (upd H D (SetSO w D []))) ∧ ∀ i m H, W i m H →
      (J.stop i H ∧ Q (.ref D) H) ∨ (J.go i H ∧ ∃ Nx : Hp → Prop, (∀ H', Nx H' → ∃ m', m' < m ∧ W (i + 1) m' H') ∧ ∀ x H', J.yld i H x H' → g x (wipe σ vs) H' fun σ2 H2 => wipe σ2 vs = wipe σ vs ∧ tt σ2 H2 fun b H3 =>
        if b = true then te σ2 H3 fun y H4 => ∃ (z : Str) (L : List Str), y = .str z ∧ H4 D = some (SetSO w D L) ∧ L.length + 1 < scanBound ∧ Nx (upd H4 D (SetSO w D (plus L z))) else Nx H3) := by
    intro J D nD hJ
    refine ⟨fun i m H' => m = xs.length - i ∧ i ≤ xs.length ∧ Pv i D H', ⟨_, rfl, Nat.zero_le _, h0 D nD⟩, ?_⟩
    rintro i m H' ⟨rfl, hi, p⟩
    obtain ⟨j1, j2⟩ := hJ i H' p hi
    by_cases hlt : i < xs.length
    · obtain ⟨go, y⟩ := j1 hlt
      refine .inr ⟨go, Pv (i + 1) D, fun H' p' => ⟨xs.length - (i + 1), by omega, rfl, hlt, p'⟩, fun x H'' hy => ?_⟩
      obtain ⟨rfl, hx⟩ := y x H'' hy
      exact hs i D x _ hx p
    · obtain rfl : i = xs.length := by omega
      exact .inl ⟨j2 rfl, hd D H' p⟩
  rcases hq with hq | hq
  · refine .inl ⟨_, hv, a, rfl, ⟨_, hq⟩, fun D nD => run _ D nD fun i H' p hi => ?_⟩
    have q := (hS i D H' p).1 hq
    exact ⟨fun lt => ⟨⟨xs, xs[i], q, by simp [lt]⟩, fun x H'' y => ⟨y.1, y.2 xs q⟩⟩, fun e => ⟨xs, q, Nat.le_of_eq e.symm⟩⟩
  · refine .inr ⟨_, hv, a, rfl, ⟨_, hq⟩, fun D nD => run _ D nD fun i H' p hi => ?_⟩
    have q := (hS i D H' p).2 hq
    exact ⟨fun lt => ⟨⟨xs, xs[i], q, by simp [lt]⟩, fun x H'' y => ⟨y.1, y.2 xs q⟩⟩, fun e => ⟨xs, q, Nat.le_of_eq e.symm⟩⟩
/-- sorted(found) -/
def rSortZ (w : World) : List V → Hp → VK → Prop := fun vs H Q => ∃ a, vs = [V.ref a] ∧ ∃ L, H a = some (SetSO w a L) ∧ ∀ (ys : List Str) (p : Addr), ys.Perm L → L.Nodup → sortedS ys = true → H p = none → Q (.ref p) (upd H p (.lst (ms ys)))
theorem strs_of : ∀ (l : List Value), (∀ v ∈ l, ∃ z tk, v = Value.str z tk) → StrsAre l (l.map fun v => zOf (0, v))
  | [], _ => .nil
  | v :: l, h => by
    obtain ⟨z, tk, rfl⟩ := h v List.mem_cons_self
    exact .cons z tk (strs_of l fun u hu => h u (List.mem_cons_of_mem _ hu))
theorem sort_Z {X : Cx} (hc : X.calm = true) : CallR X (.builtin "sorted") (rSortZ X.w) := by
  intro pins s σ H vs us Q I r h
  obtain ⟨a, rfl, L, ha, q⟩ := h
  obtain ⟨o, es, ep, t, ho, hex, hd, g, pL, nd, hb, hf, hr, hl⟩ := setSO_at I ha
  rw [Vals.ref1 r]
  have hn : es.size = L.length := by rw [← Array.length_toList, ← List.length_map (f := zOf), pL.length_eq]
  have hL : L.length ≤ sizeLine := by rw [← hn]; exact fits_of_scanBound hb
  refine Calls.call_function_entry kind_sorted plain_sorted entry_sorted (args_sorted1 _) ?_
  unfold Builtin.«sorted»
  refine wpAny_bind (m := checkCount "sorted" 1 1 _) (wpAny_pure (wpAny_bind (collect_set (A := X.A.in1) (I.ok.hd hc) ⟨o, ho, hex.1, hd⟩ hf hb hr hl fun s1 vs k1 hz g1 o1 pm => ?_)))
  have hvl : vs.length = L.length := by rw [pm.length_eq, List.length_map, Array.length_toList, hn]
  have hI : StrsAre vs (vs.map fun v => zOf (0, v)) := strs_of vs fun v hv => by
    obtain ⟨e, he, rfl⟩ := List.mem_map.mp (pm.mem_iff.mp hv)
    obtain ⟨z, tk, h1, _⟩ := g e he
    exact ⟨z, tk, h1⟩
  have pk : (vs.map fun v => zOf (0, v)).Perm L := by
    refine List.Perm.trans (l₂ := es.toList.map zOf) ?_ pL
    have k := pm.map fun v => zOf (0, v)
    rw [List.map_map] at k
    exact k
  refine wpAny_bind (wpAny_newList ?_ (by rw [hvl]; exact hL))
  have hoL : (s1.heap.push (seqObj "list" vs.toArray 0)).get? s1.heap.objs.size = some (seqObj "list" vs.toArray 0) := Heap.get?_push_size _ rfl
  refine wpAny_bind (wpAny_holding (wpAny_call_entry slot_list_sort ⟨_, hoL, rfl⟩ entry_list_sort (list_sort_treeKAny (κ := strKind) strKind_oneLt hoL hI.keysOf (fun v₁ v₂ rest e => keyKind_strs (by rw [← e]; exact hI)) (by rw [hvl]; exact hL) fun st' hp hs => ?_) (args_list_sort _)))
  obtain ⟨ys, y1, y2, y3⟩ := sorted_out_str hI hp hs
  obtain ⟨c, hcc⟩ := sortedHeap_at (vs := vs) (out := (arrOf st').map (·.2)) hoL
  have old : ∀ b u, s.heap.get? b = some u → (sortedHeap (s1.heap.push (seqObj "list" vs.toArray 0)) s1.heap.objs.size vs ((arrOf st').map (·.2))).get? b = some u := fun b u e => by
    have k := k1 b u e
    have lt := Heap.lt_size k
    rw [sortedHeap_old (Nat.ne_of_lt lt) (by rw [size_push']; exact Nat.lt_succ_of_lt lt)]
    exact Heap.get?_push_of_some _ k
  have hlen : (ms ys).length ≤ sizeLine := by rw [List.length_map, y2.length_eq, List.length_map, hvl]; exact hL
  have hp0 : H s1.heap.objs.size = none := I.hok.fresh hz
  generalize sortedHeap (s1.heap.push (seqObj "list" vs.toArray 0)) s1.heap.objs.size vs ((arrOf st').map (·.2)) = h2 at old hcc
  have J : Inv X pins σ (upd H s1.heap.objs.size (.lst (ms ys))) { s with heap := h2, gens := s1.gens, drawn := s1.drawn, toks := s1.toks } := I.call (ch := []) (Un.laid old hz hp0) (I.hok.laid old hz ⟨hlen, _, c, vals_of_strs y1, hcc⟩) (by rw [g1]; exact I.bare) (fun _ k => nomatch k)
  have e : ({ s1 with heap := h2 } : Shared) = { s with heap := h2, gens := s1.gens, drawn := s1.drawn, toks := s1.toks } := by
    cases s1
    cases s
    cases o1
    rfl
  refine ⟨_, rfl, wpAny_pure ⟨_, rfl, .ref s1.heap.objs.size, _, ?_, rfl, q ys _ (y2.trans pk) nd y3 hp0⟩⟩
  show Inv X pins σ _ ({ s1 with heap := h2 } : Shared)
  rw [e]
  exact J
end Fx
/-! o(e, ..), the class of o has a __call__; o op p in a try's body -/
namespace Fx
open PySem PySem.Spec PySem.Calls PyProof.Rows L2
section
variable {M : Model} {A : Around} {E : Value → Shared → Prop} {s : Shared} {K : PySem.W.Frag} {pos : Pos} {x C : Addr} {Q : Value → Shared → Prop}
theorem own_with {args : List (Bool × Sem Value)} (hp : args.any (·.1) = false) (h : wpAny M A (evalArgs (.ref x) true args []) (fun a s₁ => (∃ ox od, PySem.W.InstAt s₁.heap x ox C od ∧ ox.data = .plain) ∧ wpAny M A (call (.ref x) a.pos a.kw) Q E s₁) E s) : wpAny M A (callWith pos (.ref x) [] args []) Q E s := by
  unfold callWith
  refine wpAny_bind (wpAny_holding (wpAny_mono h (fun a s₁ ⟨⟨ox, od, J, hd⟩, hc⟩ => wpAny_bind (wpAny_standAt ?_)) fun _ _ y => y))
  have pl : (args.any (·.1) || ([] : List (Option Str × Sem Value)).any (·.1.isNone)) = false := by rw [hp]; rfl
  simp only [pl]
  refine wpAny_bind ((PySem.W.kco_keeper (M := M) J hd).here (wpAny_bind (wpAny_mono (wpAny_operateT hc) (fun r s₂ hr => wpAny_bind (wpAny_holding (wpAny_point (wpAny_pure hr)))) fun _ _ y => y)))
end
section
variable {X : Cx} {k : Nat} {C : Addr} {CX : CXT} {ps : List Str} {sp : Sp} {W : WX} {x : Str} {p pos : Pos} {e : Expr} {es : List Expr} {ta : TE} {t : TA} {E : L2.St → XK}
def callB (K : PySem.W.Frag) (C : Addr) : Bool := match PySem.W.findIn K (.ref C) "__call__" with
  | some (some (.ref f)) => PySem.W.fnIn K f
  | _ => false
theorem callB_ok {K : PySem.W.Frag} {C f : Addr} (h : callB K C = true) (e : PySem.W.findIn K (.ref C) "__call__" = some (some (.ref f))) : PySem.W.fnIn K f = true := by
  unfold callB at h
  rw [e] at h
  exact h
theorem pAt {X : Cx} {CX : CXT} {E : XK} (h : Passes CX X E) (σ : L2.St) : PassesAt CX X σ E := fun pins H s e s' I c => h pins σ H s e s' I c
def tCallO (C : Addr) (sp : Sp) (E : L2.St → XK) (ta : TE) (t : TA) : TE := fun σ H Q => ta σ H fun x H1 => ∃ a, x = .ref a ∧ t σ H1 fun vs H2 => ∃ dx fs, H2 a = some (.ins C dx fs) ∧ sp (x :: vs) H2 Q (E σ)
theorem pe_callO (M : CalM X.prog X.w X.K X.mg X.base CX k C "__call__" ps sp) (hc : callB X.K C = true) (hr : Room k X.A) (hx : ∀ σ, PassesAt CX X σ (E σ)) (hn : PE X (.Name x p) ta) (ha : PA X (e :: es) t) (hs : (e :: es).all nostar = true := by rfl) :
    PE X (.Call (.Name x p) (e :: es) [] pos) (tCallO C sp E ta t) := by
  obtain ⟨f, fd, m, b, F⟩ := M.ex
  simp only [List.all_cons, Bool.and_eq_true] at hs
  refine ⟨fun pins s σ H Q I h => ?_⟩
  refine wpAny_Call_Name_kw (thn (hn.run pins s σ H _ I h) fun u s1 ⟨v, H1, I1, rv, a, ev, q⟩ => ?_)
  subst ev
  obtain rfl : u = Value.ref a := rv
  have pl : (backTo pos (starEach (e :: es) X.env)).any (·.1) = false := by
    rw [star_ok hs.1]
    show (false || (backTo pos (starEach es X.env)).any (·.1)) = false
    rw [back_ok hs.2]
    rfl
  refine own_with (C := C) pl ?_
  have hA := ha.run pos pins s1 σ H1 _ I1 q
  rw [star_ok hs.1] at hA ⊢
  refine evalArgs_plain (thn hA fun us s2 ⟨vs, H2, I2, r, dx, fs, h2, q2⟩ => ?_)
  obtain ⟨ox, od, J, hd⟩ : ∃ ox od, PySem.W.InstAt s2.heap a ox C od ∧ ox.data = .plain := by
    obtain ⟨mA, J, _⟩ := ins_get I2.hok h2
    obtain ⟨od, J, _⟩ := J.look
    exact ⟨_, od, J, rfl⟩
  refine ⟨⟨ox, od, J, hd⟩, ?_⟩
  have e0 := I2.env0
  have rr : Vals (V.ref a :: vs) (Value.ref a :: us) := .cons rfl r
  have hl : (Value.ref a :: us).length = ps.length := by rw [← rr.length]; exact F.len _ _ _ _ q2
  have bb := b s2 (Value.ref a :: us) I2.kIn (by rw [List.append_nil]; exact hl)
  rw [List.append_nil] at bb
  refine wpAny_call (PySem.W.kco_code I2.kIn J hd m.at_ m.fn (callB_ok hc m.at_) (codeAny_mono (F.run X.A X.stack s2 H2 ⟨.ref a :: us, []⟩ (.ref a :: us) (V.ref a :: vs) Q (E σ) hr e0 bb rr q2) fun rs s' hq => ?_))
  cases rs with
  | error ex => exact hx σ pins H2 s2 ex s' I2 hq
  | ok fl =>
    cases fl with
    | ret u => exact I2.after hq
    | next => exact False.elim hq
    | brk => exact False.elim hq
    | cont => exact False.elim hq
theorem run_at {A : Around} {f : Addr} {fd : FuncData} {pins : List (Addr × Obj)} {σ : L2.St} {H : Hp} {s : Shared} {Q : VK} {us : List Value} {vs : List V} (hA : A.frames = X.A.frames) (F : FnOk X.prog X.w X.K X.mg X.base CX k f fd ps sp) (hr : Room k A) (hb : Binds X.K fd ps []) (hx : PassesAt CX X σ (E σ))
    (I : Inv X pins σ H s) (r : Vals vs us) (h : sp vs H Q (E σ)) : wpAny (model X.prog X.w) A (call (.ref f) us) (EP X pins σ Q) X.xe s := by
  have e := I.env0
  have e0 : Env0 X.prog X.w X.K X.mg X.base A X.stack s H := ⟨by rw [hA]; exact e.frames, e.mod, e.bs, e.bsz, e.funs, e.frf, e.hok, e.bare⟩
  have hl : us.length = ps.length := r.length ▸ F.len _ _ _ _ h
  have bb := hb s us I.kIn (by rw [List.append_nil]; exact hl)
  rw [List.append_nil] at bb
  refine wpAny_call (codeAny_mono (F.run A X.stack s H ⟨us, []⟩ us vs Q (E σ) hr e0 bb r h) fun rs s' hq => ?_)
  cases rs with
  | error ex => exact hx pins H s ex s' I hq
  | ok fl =>
    cases fl with
    | ret u => exact I.after hq
    | next => exact False.elim hq
    | brk => exact False.elim hq
    | cont => exact False.elim hq
/-- o op p in a try's body -/
def tBinT (C : Addr) (sp : Sp) (E : L2.St → XK) (ta tb : TE) : TE := fun σ H Q => ta σ H fun x H1 => tb σ H1 fun y H2 => ∃ a b dx dy fs gs, x = .ref a ∧ y = .ref b ∧ H2 a = some (.ins C dx fs) ∧ H2 b = some (.ins C dy gs) ∧ sp [.ref a, .ref b] H2 (fun v H' => ∃ r, v = .ref r ∧ Q (.ref r) H') (E σ)
theorem pe_binT {op : Operator} {mn : Str} {a b : Expr} {tb : TE} (hop : PySem.dunder op.info.2 = mn) (M : CalM X.prog X.w X.K X.mg X.base CX k C mn ps sp) (hc : PySem.W.selfFirst X.K C = true) (hr : Room k X.A) (hx : ∀ σ, PassesAt CX X σ (E σ)) (ha : PE X a ta) (hb : PE X b tb) :
    PE X (.BinOp a op b pos) (tBinT C sp E ta tb) := by
  refine ⟨fun pins s σ H Q I h => wpAny_BinOp (binT ha hb I h fun v u s2 x y H2 I2 rx ry hq => ?_)⟩
  obtain ⟨f, fd, m, b, F⟩ := M.ex
  obtain ⟨a, c, dx, dy, fs, gs, rfl, rfl, h1, h2, hsp⟩ := hq
  cases rx
  cases ry
  subst hop
  obtain ⟨ox, od, J⟩ := inst_at I2 h1
  obtain ⟨oy, od', J'⟩ := inst_at I2 h2
  obtain ⟨mm, hF⟩ := I2.fr
  refine PySem.W.binop_K hF I2.ok.mod.kin J J'.type hc m.at_ m.fn (wpAny_mono (run_at (vs := [.ref a, .ref c]) (us := [.ref a, .ref c]) rfl F hr b (hx σ) I2 (.cons rfl (.cons rfl .nil)) hsp) (fun v s' hv => ?_) fun _ _ z => z)
  obtain ⟨z, H', I', rz, r, rfl, q⟩ := hv
  cases rz
  exact ⟨.ref r, H', I', rfl, q⟩
end
end Fx
/-! text += text, range with a step in a comprehension, a reading that depends on the slots -/
namespace Fx
open PySem PySem.Spec PyProof.Rows L2
section
variable {X : Cx} {pos : Pos}
def ipZ : TIp := fun x y H Q => ∃ a b, x = .str a ∧ y = .str b ∧ a.length + b.length ≤ sizeLine ∧ Q (.str (a ++ b)) H
theorem ip_addZ : PIp X .Add ipZ := fun pins s σ H x y v u Q I rx ry h => iop_add_str pins s σ H x y v u Q I rx ry h
/-- a reading that leans on the slots -/
def tDep (T : L2.St → TE) : TE := fun σ H Q => T σ σ H Q
theorem pe_dep {e : Expr} {T : L2.St → TE} (h : ∀ σ, PE X e (T σ)) : PE X e (tDep T) := ⟨fun pins s σ H Q I q => (h σ).run pins s σ H Q I q⟩
theorem cx_w {CX : CXT} {P : Program} {w : World} {K : PySem.W.Frag} {mg : Str → Option Value} {base : Heap} {N : List Str} {qual : Str} {scope : Scope} {f : Addr} {cd : Value} {A : Around} {outer : List Env} {s : Shared} {H : Hp} {E : XK} :
    (cxOf CX P w K mg base N qual scope f cd A outer s H E).w = w := rfl
end
theorem lc_rangeC {lo c : Int} {n : Nat} {g : TG} {tt : TT} {te : TE} {vs : List Nat} {σ : L2.St} {H1 : Hp} {D : Addr} {Qd : Hp → Prop} (Pv : Nat → Hp → Prop) (h0 : Pv 0 (upd H1 D (.lst [])))
    (hs : ∀ i H, i < n → Pv i H → g (.int (lo + (i : Nat) * c)) (wipe σ vs) H fun σ2 H2 => wipe σ2 vs = wipe σ vs ∧ tt σ2 H2 fun b H3 => if b = true then te σ2 H3 fun y H4 => ∃ acc, H4 D = some (.lst acc) ∧ acc.length < sizeLine ∧ Pv (i + 1) (upd H4 D (.lst (acc ++ [y]))) else Pv (i + 1) H3)
    (hd : ∀ H, Pv n H → Qd H) : ∃ W : Nat → Nat → Hp → Prop, (∃ m, W 0 m (upd H1 D (.lst []))) ∧ ∀ i m H, W i m H →
      ((Itc lo c n).stop i H ∧ Qd H) ∨ ((Itc lo c n).go i H ∧ ∃ Nx : Hp → Prop, (∀ H', Nx H' → ∃ m', m' < m ∧ W (i + 1) m' H') ∧ ∀ x H', (Itc lo c n).yld i H x H' → g x (wipe σ vs) H' fun σ2 H2 => wipe σ2 vs = wipe σ vs ∧ tt σ2 H2 fun b H3 =>
        if b = true then te σ2 H3 fun y H4 => ∃ acc, H4 D = some (.lst acc) ∧ acc.length < sizeLine ∧ Nx (upd H4 D (.lst (acc ++ [y]))) else Nx H3) := by
  refine ⟨fun i m H => m = n - i ∧ i ≤ n ∧ Pv i H, ⟨n, by omega, Nat.zero_le _, h0⟩, ?_⟩
  rintro i m H ⟨rfl, hi, p⟩
  rcases Nat.lt_or_ge i n with hlt | hge
  · refine .inr ⟨hlt, Pv (i + 1), fun H' p' => ⟨n - (i + 1), by omega, rfl, hlt, p'⟩, ?_⟩
    rintro x H' ⟨rfl, rfl⟩
    exact hs i _ hlt p
  · obtain rfl : i = n := by omega
    exact .inl ⟨Nat.le_refl _, hd H p⟩
theorem rgC_up {a b c : Int} {n : Nat} (hc : 0 < c) (hc2 : c < 1000000) (ha : -(2 ^ 60) ≤ a) (ha' : a ≤ 2 ^ 60) (hb : -(2 ^ 60) ≤ b) (hb' : b ≤ 2 ^ 60) (hn : (n : Int) = if a < b then (b - a - 1) / c + 1 else 0) : RgC a b c n := by
  have hz : Builtin.Range.rangeSize a b c = if a < b then (b - a - 1) / c + 1 else 0 := by
    unfold Builtin.Range.rangeSize
    rw [if_pos hc]
  refine ⟨by omega, by omega, ?_, by rw [hz, hn]⟩
  unfold Builtin.Range.small
  rw [hz]
  by_cases h : a < b
  · have h1 : (b - a - 1) / c ≤ b - a - 1 := Int.ediv_le_self _ (by omega)
    have h2 : 0 ≤ (b - a - 1) / c := Int.ediv_nonneg (by omega) (by omega)
    simp only [Builtin.Range.rangeFitsLong, Bool.and_eq_true, Bool.or_eq_true, decide_eq_true_eq, beq_iff_eq, if_pos h, if_pos hc]
    omega
  · simp only [Builtin.Range.rangeFitsLong, Bool.and_eq_true, Bool.or_eq_true, decide_eq_true_eq, beq_iff_eq, if_neg h, if_pos hc]
    omega
end Fx
/-! A def that is called in an except suite with plain arguments -/
namespace Fx
open PySem PySem.Spec PySem.Calls PyProof.Rows L2
structure FnQ (P : Program) (w : World) (K : PySem.W.Frag) (mg : Str → Option Value) (base : Heap) (k : Nat) (f : Addr) (fd : FuncData) (ps : List Str) (sp : Sp) : Prop where
  len : ∀ vs H Q E, sp vs H Q E → vs.length = ps.length
  run : ∀ (A : Around) (outer : List Env) (s : Shared) (H : Hp) (args : Args) (us : List Value) (vs : List V) (Q : VK) (p : Addr × Obj), L2H.RoomH k A → L2H.PinOk outer H s p → Env0 P w K mg base A outer s H → BindsTo s fd args (ps.zip us) → Vals vs us → sp vs H Q E0 →
    codeAny (model P w) A (.call (.ref f) args) (CR CX0 outer P w H s Q E0) s
theorem fn_ofQ {P : Program} {w : World} {K : PySem.W.Frag} {mg : Str → Option Value} {base : Heap} {k : Nat} {f : Addr} {name qual : Str} {params : Arguments} {body : List Stmt} {scope : Scope} {dV kV doc pm cdv ct oc : Value} {an od : Option Addr} {osl : Array (Option Value)} {N ps : List Str} {sp : Sp}
    (lk : K.lookup f = some ⟨oc, od, .func (PySem.W.fnOf name qual params body scope dV kV doc pm an cdv ct), osl⟩) (hcd : PySem.W.codeIn K cdv qual = true) (S : FnScope N ps scope) (len : ∀ vs H Q E, sp vs H Q E → vs.length = ps.length)
    (hbody : ∀ (A : Around) (outer : List Env) (s : Shared) (H : Hp) (vs : List V) (Q : VK) (p : Addr × Obj), L2H.RoomH k (A.deeper (envOfC qual scope s.heap.objs.size f cdv)) → sp vs H Q E0 → ∃ t, PSs (cxE P w K mg base N qual scope f cdv A outer s H p) body t ∧ t { nx := fun _ H' => Q .non H', rt := Q } (L2.start N vs) H) :
    FnQ P w K mg base (k + 1) f (PySem.W.fnOf name qual params body scope dV kV doc pm an cdv ct) ps sp := by
  refine ⟨len, fun A outer s H args us vs Q p hr hpin e0 hb rv hsp => ?_⟩
  have hl := len _ _ _ _ hsp
  have KX : K.In s.heap := e0.mod.kin.keeps fun b o e => (e0.bs b o e).1
  have lim : s.heap.NoLimit := e0.mod.nolimit.keeps fun b o e => (e0.bs b o e).1
  have hkind : ∀ y ∈ ps.zip us, scope.names.lookup y.1 = some .local ∨ (scope.names.lookup y.1 = some .cell ∧ ((cellsFrom (s.heap.objs.size + 1) scope.names []).lookup y.1).isSome = true) := by
    rintro ⟨n, v⟩ hy
    rcases S.par n (List.of_mem_zip hy).1 with q | q
    · exact .inl q
    · exact .inr ⟨q, PySem.W.cellsFrom_some _ _ _ (.inl q)⟩
  refine codeAny_call_function hr.depth (KX _ _ lk) rfl S.co S.gen rfl (PySem.W.codeRec_of KX hcd) (hb _ _ _ _ (wpAny_newFunctionEnv_cells S.kind hkind fun env he s1 y => ?_))
  subst he
  refine ⟨lim.keeps y.toInCall.keep, codeAny_func ?_⟩
  obtain ⟨t, ht, hq⟩ := hbody A outer s H vs Q p (hr.deeper _) hsp
  have I : Inv (L2H.cxH CX0 P w K mg base N qual scope f cdv A outer s H E0 p) [] (L2.start N vs) H s1 := L2H.inv_startH S hpin e0 hl rv y
  refine wpAny_mono (ht.nox.run [] s1 (L2.start N vs) H _ I hq) (fun fl s' hs => ?_) fun e s' hs => hs
  have fin : ∀ {σ' : L2.St} {H' : Hp} {v : V} {u : Value}, Inv (L2H.cxH CX0 P w K mg base N qual scope f cdv A outer s H E0 p) [] σ' H' s' → RelV v u → Q v H' → CE outer P w H s Q u s' := fun {σ' H' v u} J rv q => ⟨v, H', J.os, J.bare, J.base, J.hok, rv, q⟩
  cases fl with
  | ret u =>
    obtain ⟨v, σ', H', J, rv, q⟩ := hs
    exact fin J rv q
  | next =>
    obtain ⟨σ', H', J, q⟩ := hs
    exact fin (v := V.non) (u := Value.none) J rfl q
  | brk =>
    obtain ⟨_, _, _, q⟩ := hs
    exact False.elim q
  | cont =>
    obtain ⟨_, _, _, q⟩ := hs
    exact False.elim q
structure CalQ (P : Program) (w : World) (K : PySem.W.Frag) (mg : Str → Option Value) (base : Heap) (k : Nat) (x : Str) (ps : List Str) (sp : Sp) : Prop where
  ex : ∃ f fd, mg x = some (.ref f) ∧ PySem.W.keepIn K (.ref f) = true ∧ Binds K fd ps [] ∧ FnQ P w K mg base k f fd ps sp
theorem Src.calQ {P : Program} {w : World} {K : PySem.W.Frag} {mg : Str → Option Value} {base : Heap} {x : Str} {st : Stmt} {N ps : List Str} {k : Nat} {sp : Sp} (S : Src K mg x st) (sc : FnScope N ps (defScope st)) (bn : BindP x st ps) (len : ∀ vs H Q E, sp vs H Q E → vs.length = ps.length)
    (hbody : ∀ (f : Addr) (cdv : Value) (A : Around) (outer : List Env) (s : Shared) (H : Hp) (vs : List V) (Q : VK) (p : Addr × Obj), L2H.RoomH k (A.deeper (envOfC x (defScope st) s.heap.objs.size f cdv)) → sp vs H Q E0 →
      ∃ t, PSs (cxE P w K mg base N x (defScope st) f cdv A outer s H p) (defBody st) t ∧ t { nx := fun _ H' => Q .non H', rt := Q } (L2.start N vs) H) : CalQ P w K mg base (k + 1) x ps sp := by
  obtain ⟨f, fd, g, F⟩ := S
  have b := F.bindsN bn
  have kp := F.kp
  obtain ⟨oc, od, dV, kV, doc, pm, an, cdv, ct, osl, rfl, lk, hcd, _, _⟩ := F.ex
  exact ⟨f, _, g, kp, b, fn_ofQ lk hcd sc len fun A outer s H vs Q p hr hsp => hbody f cdv A outer s H vs Q p hr hsp⟩
section
variable {X : Cx} {k : Nat} {x : Str} {ps : List Str} {sp : Sp} {p pos : Pos} {e : Expr} {es : List Expr} {t : TA} {a : Addr} {oe : Obj} {pn : List (Addr × Obj)}
/-- f(e, ..) in the suite -/
theorem pe_calQ (C : CalQ X.prog X.w X.K X.mg X.base k x ps sp) (hr : Room k X.A) (ha : PA (X.suite a ((a, oe) :: pn)) (e :: es) t) (hg : Gl (X.suite a ((a, oe) :: pn)) x := by rfl) (hdb : (x == ("__debug__" : Str)) = false := by decide)
    (hs : (e :: es).all nostar = true := by rfl) : PE (X.suite a ((a, oe) :: pn)) (.Call (.Name x p) (e :: es) [] pos) (tCall sp [] E0 t) := by
  obtain ⟨f, fd, g, kp, b, F⟩ := C.ex
  simp only [List.all_cons, Bool.and_eq_true] at hs
  refine ⟨fun pins s σ H Q I h => wpAny_Call_Name_kw (ld_glob I hg g ?_ hdb)⟩
  refine PySem.W.callWith_K (h₀ := X.base) I.ok.mod.kin kp (thn (ha.run pos pins s σ H _ I h) fun us s1 ⟨vs, H1, I1, r, q⟩ => ⟨I1.kIn, ?_⟩) (star_ok hs.1) (back_ok hs.2)
  have q : sp (vs ++ []) H1 Q E0 := q
  rw [List.append_nil] at q
  have P1 := I1.pin (a, oe) (List.mem_append_left _ List.mem_cons_self)
  have hpin : L2H.PinOk X.stack H1 s1 (a, oe) := ⟨P1.1, P1.2.1, fun hm => (List.mem_cons.mp (I1.stkSub a hm)).elim P1.2.2.1 P1.2.2.2.1, P1.2.2.2.2⟩
  have hl : us.length = ps.length := by rw [← r.length]; exact F.len _ _ _ _ q
  have bb := b s1 us I1.kIn (by rw [List.append_nil]; exact hl)
  rw [List.append_nil] at bb
  refine wpAny_call (codeAny_mono (F.run (X.suite a ((a, oe) :: pn)).A X.stack s1 H1 ⟨us, []⟩ us vs Q (a, oe) ⟨hr.dp, hr.un⟩ hpin I1.env0 bb r q) fun rs s' hq => ?_)
  cases rs with
  | error e => exact False.elim hq
  | ok fl =>
    cases fl with
    | ret u => exact I1.after hq
    | next => exact False.elim hq
    | brk => exact False.elim hq
    | cont => exact False.elim hq
end
end Fx
/-! Walking an object of an own class whose __iter__ gives a tuple's iterator; a def with one default; a statement that is not reached -/
namespace Fx
open PySem PySem.Spec PyProof.Rows L2
/-- a def that keeps its promise, entered where the heap has at least n objects -/
structure FnOkN (P : Program) (w : World) (K : PySem.W.Frag) (mg : Str → Option Value) (base : Heap) (k n : Nat) (f : Addr) (fd : FuncData) (ps : List Str) (sp : Sp) : Prop where
  len : ∀ vs H Q E, sp vs H Q E → vs.length = ps.length
  run : ∀ (A : Around) (outer : List Env) (s : Shared) (H : Hp) (args : Args) (us : List Value) (vs : List V) (Q : VK) (E : XK), n ≤ s.heap.objs.size → Room k A → Env0 P w K mg base A outer s H → BindsTo s fd args (ps.zip us) → Vals vs us → sp vs H Q E →
    codeAny (model P w) A (.call (.ref f) args) (CR CX0 outer P w H s Q E) s
theorem fn_ofN {P : Program} {w : World} {K : PySem.W.Frag} {mg : Str → Option Value} {base : Heap} {k n : Nat} {f : Addr} {name qual : Str} {params : Arguments} {body : List Stmt} {scope : Scope} {dV kV doc pm cdv ct oc : Value} {an od : Option Addr}
    {osl : Array (Option Value)} {N ps : List Str} {sp : Sp} (lk : K.lookup f = some ⟨oc, od, .func (PySem.W.fnOf name qual params body scope dV kV doc pm an cdv ct), osl⟩) (hcd : PySem.W.codeIn K cdv qual = true) (S : FnScope N ps scope)
    (len : ∀ vs H Q E, sp vs H Q E → vs.length = ps.length)
    (hbody : ∀ (A : Around) (outer : List Env) (s : Shared) (H : Hp) (vs : List V) (Q : VK) (E : XK), n ≤ s.heap.objs.size → Room k (A.deeper (envOfC qual scope s.heap.objs.size f cdv)) → sp vs H Q E →
      ∃ t, PSs (cxOf CX0 P w K mg base N qual scope f cdv A outer s H E) body t ∧ t { nx := fun _ H' => Q .non H', rt := Q } (start N vs) H) :
    FnOkN P w K mg base (k + 1) n f (PySem.W.fnOf name qual params body scope dV kV doc pm an cdv ct) ps sp := by
  refine ⟨len, fun A outer s H args us vs Q E hn hr e0 hb r hsp => ?_⟩
  have hl := len _ _ _ _ hsp
  have KX : K.In s.heap := e0.mod.kin.keeps fun b o e => (e0.bs b o e).1
  have lim : s.heap.NoLimit := e0.mod.nolimit.keeps fun b o e => (e0.bs b o e).1
  have hkind : ∀ y ∈ ps.zip us, scope.names.lookup y.1 = some .local ∨ (scope.names.lookup y.1 = some .cell ∧ ((cellsFrom (s.heap.objs.size + 1) scope.names []).lookup y.1).isSome = true) := fun ⟨n, v⟩ hy => by
    rcases S.par n (List.of_mem_zip hy).1 with q | q
    · exact .inl q
    · exact .inr ⟨q, PySem.W.cellsFrom_some _ _ _ (.inl q)⟩
  refine codeAny_call_function hr.depth (KX _ _ lk) rfl S.co S.gen rfl (PySem.W.codeRec_of KX hcd) (hb _ _ _ _ ?_)
  refine wpAny_newFunctionEnv_cells S.kind hkind fun env he s1 x => ?_
  subst he
  refine ⟨lim.keeps x.toInCall.keep, codeAny_func ?_⟩
  obtain ⟨t, ht, hq⟩ := hbody A outer s H vs Q E hn (hr.deeper _) hsp
  have I : Inv (cxOf CX0 P w K mg base N qual scope f cdv A outer s H E) [] (start N vs) H s1 := inv_start S hr.hd e0 hl r x
  refine wpAny_mono (ht.run [] s1 (start N vs) H _ I hq) (fun fl s' hs => ?_) fun e s' hs => hs
  have fin : ∀ {σ' : L2.St} {H' : Hp} {v : V} {u : Value}, Inv (cxOf CX0 P w K mg base N qual scope f cdv A outer s H E) [] σ' H' s' → RelV v u → Q v H' → CE outer P w H s Q u s' :=
    fun {σ' H' v u} J rv q => ⟨v, H', J.os, J.bare, J.base, J.hok, rv, q⟩
  cases fl with
  | ret u =>
    obtain ⟨v, σ', H', J, rv, q⟩ := hs
    exact fin J rv q
  | next =>
    obtain ⟨σ', H', J, q⟩ := hs
    exact fin (v := V.non) (u := Value.none) J rfl q
  | brk =>
    obtain ⟨_, _, _, q⟩ := hs
    exact False.elim q
  | cont =>
    obtain ⟨_, _, _, q⟩ := hs
    exact False.elim q
/-- a method whose promise may speak of the objects that were there -/
structure CalMN (P : Program) (w : World) (K : PySem.W.Frag) (mg : Str → Option Value) (base : Heap) (k : Nat) (C : Addr) (m : Str) (ps : List Str) (spn : Nat → Sp) : Prop where
  ex : ∃ f fd, Meth K C m f ∧ Binds K fd ps [] ∧ ∀ n, FnOkN P w K mg base k n f fd ps (spn n)
section
variable {P : Program} {w : World} {K : PySem.W.Frag} {mg : Str → Option Value} {base : Heap} {k n : Nat} {ps N : List Str} {sp : Sp} {x qual : Str} {st : Stmt} {f : Addr} {fd : FuncData}
theorem ok0N (F : FunD K x qual (defArgs st) (defBody st) (defScope st) [] [] f fd) (sc : FnScope N ps (defScope st)) (len : ∀ vs H Q E, sp vs H Q E → vs.length = ps.length)
    (hbody : ∀ (f : Addr) (cdv : Value) (A : Around) (outer : List Env) (s : Shared) (H : Hp) (vs : List V) (Q : VK) (E : XK), n ≤ s.heap.objs.size → Room k (A.deeper (envOfC qual (defScope st) s.heap.objs.size f cdv)) → sp vs H Q E →
      ∃ t, PSs (cxOf CX0 P w K mg base N qual (defScope st) f cdv A outer s H E).nox (defBody st) t ∧ t { nx := fun _ H' => Q .non H', rt := Q } (L2.start N vs) H) : FnOkN P w K mg base (k + 1) n f fd ps sp := by
  obtain ⟨oc, od, dV, kV, doc, pm, an, cdv, ct, osl, rfl, lk, hcd, _, _⟩ := F.ex
  refine fn_ofN lk hcd sc len fun A outer s H vs Q E hn hr hsp => ?_
  obtain ⟨t, h, q⟩ := hbody f cdv A outer s H vs Q E hn hr hsp
  exact ⟨t, h.nox, q⟩
end
section
variable {X : Cx}
/-- iter(t), younger than the def's entry -/
def rIterTN (n : Nat) : List V → Hp → VK → Prop := fun xs H Q => ∃ t, xs = [.ref t] ∧ ∃ zs, FT H t zs ∧ ∀ it, H it = none → n ≤ it → Q (.ref it) (upd H it (TItO t it 0))
theorem iter_TN : CallR X (.builtin "iter") (rIterTN X.s_0.heap.objs.size) := by
  intro pins s σ H xs us Q I r h
  obtain ⟨t, rfl, zs, hq, q⟩ := h
  obtain ⟨u, rfl, ru⟩ := r.one
  cases ru
  obtain ⟨its, rv, pl, hz⟩ := I.tuple (xs := zs) hq.sq
  refine call_iterT0 pl ?_
  exact ⟨.ref s.heap.objs.size, _, I.laid (t' := s.toks) (fun b u e => Heap.get?_push_of_some _ e) (Nat.le_refl _) (titO_ok ⟨_, Heap.get?_push_size _ rfl, rfl, rfl⟩), rfl, q _ (I.hok.fresh (Nat.le_refl _)) I.sz⟩
/-- for .. in o, o of an own class -/
def iOwn (K : PySem.W.Frag) (C : Addr) (spn : Nat → Sp) (n : Nat) (te : TE) : TI := fun σ H R => te σ H fun x H1 => ∃ a dx fs, x = .ref a ∧ H1 a = some (.ins C dx fs) ∧
  spn n [.ref a] H1 (fun v H2 => ∃ it p, v = .ref it ∧ n ≤ it ∧ H2 it = some (TItO p it 0) ∧ R (Itt K p) (ItX.dropH H2 it)) E0
theorem pi_O {tg e : Expr} {te : TE} {k : Nat} {C : Addr} {ps : List Str} {spn : Nat → Sp} (M : CalMN X.prog X.w X.K X.mg X.base k C "__iter__" ps spn) (hr : Room k X.A) (he : PE X e te) : PI X tg e (iOwn X.K C spn X.s_0.heap.objs.size te) := by
  refine ⟨fun pins s σ H R I h => ?_⟩
  refine thn (he.run pins s σ H _ I h) fun v s1 ⟨x, H1, I1, r1, a, dx, fs, ex, ha, hsp⟩ => ?_
  subst ex
  cases r1
  obtain ⟨f, fd, m, b, F⟩ := M.ex
  obtain ⟨ox, od, J⟩ := inst_at I1 ha
  obtain ⟨mm, hF⟩ := I1.fr
  refine PySem.W.owit_iter hF I1.ok.mod.kin J m.at_ m.fn ?_
  have hb := b s1 [.ref a] I1.kIn (by simpa using (F _).len _ _ _ _ hsp)
  refine wpAny_call (codeAny_mono ((F X.s_0.heap.objs.size).run X.A X.stack s1 H1 ⟨[.ref a], []⟩ [.ref a] [.ref a] _ E0 I1.sz hr I1.env0 (by simpa using hb) (.cons rfl .nil) hsp) fun r s' hq => ?_)
  cases r with
  | error e => exact False.elim hq
  | ok fl =>
    cases fl with
    | next => exact False.elim hq
    | brk => exact False.elim hq
    | cont => exact False.elim hq
    | ret u =>
      obtain ⟨z, H2, I2, rz, it, p, ez, hn, hit, q⟩ := I1.after hq
      subst ez
      cases rz
      have hit0 : s'.heap.IsTupleIter it p 0 := (I2.hok it _ hit).1
      have hit' := hit
      unfold TItO at hit'
      unfold PySem.W.OwitIt
      refine wpAny_specialOf (name := Str.ofString "__next__") hit0.typeIs PySem.F.slot_tuple_iterator_next.lookup ?_
      refine ⟨it, [it], _, _, ItX.dropH H2 it, rfl, ItX.inv_drop I2 hit', turn_tuple p it, hit0, fun b hb => ?_, q⟩
      have e : b = it := by simpa using hb
      rw [e]
      exact ItX.inv_fp I2 hit hn
end
/-! ### a statement that is not reached -/
def tDead : TS := fun _ _ _ => False
theorem ps_dead {X : Cx} {st : Stmt} : PS X st tDead := ⟨fun _ _ _ _ _ _ h => h.elim⟩
/-! ### a def with one default -/
def SrcD (K : PySem.W.Frag) (mg : Str → Option Value) (x : Str) (st : Stmt) (dv : V) : Prop := ∃ f fd, mg x = some (.ref f) ∧ FunD K x x (defArgs st) (defBody st) (defScope st) [dv] [] f fd
structure CalD (P : Program) (w : World) (K : PySem.W.Frag) (mg : Str → Option Value) (base : Heap) (CX : CXT) (k : Nat) (x : Str) (ps : List Str) (dv : V) (sp : Sp) : Prop where
  ex : ∃ f fd ds, mg x = some (.ref f) ∧ PySem.W.keepIn K (.ref f) = true ∧ Binds K fd ps [] ∧ Vals [dv] ds ∧ Binds K fd ps ds ∧ FnOk P w K mg base CX k f fd ps sp
section
variable {P : Program} {w : World} {K : PySem.W.Frag} {mg : Str → Option Value} {base : Heap} {CX : CXT} {x : Str} {st : Stmt} {N ps : List Str} {k : Nat} {dv : V} {sp : Sp}
theorem CalD.full (M : CalD P w K mg base CX k x ps dv sp) : Cal P w K mg base CX k x ps sp := by
  obtain ⟨f, fd, ds, g, kp, b, _, _, F⟩ := M.ex
  exact ⟨f, fd, g, kp, b, F⟩
theorem SrcD.of (S : SrcD K mg x st dv) (n : Nat) (hn : n + 1 = ps.length) (b1 : BindD x x st ps (n + 1) 1) (b0 : BindD x x st ps n 0) (ok : ∀ {f fd}, FunD K x x (defArgs st) (defBody st) (defScope st) [dv] [] f fd → FnOk P w K mg base CX k f fd ps sp) : CalD P w K mg base CX k x ps dv sp := by
  obtain ⟨f, fd, g, F⟩ := S
  obtain ⟨ds1, v1, B1⟩ := F.binds1 (ps := ps) (n + 1) 1 (by simp) (by simpa using hn) b1
  obtain ⟨ds0, v0, B0⟩ := F.binds1 (ps := ps) n 0 (by simp) (by simpa using hn) b0
  have e : ds1 = [] := by
    cases v1
    rfl
  subst e
  exact ⟨f, fd, ds0, g, F.kp, B1, v0, B0, ok F⟩
end
section
variable {X : Cx} {CX : CXT} {E : XK} {k : Nat} {x : Str} {ps : List Str} {dv : V} {sp : Sp} {e : Expr} {es : List Expr} {t : TA} {p pos : Pos}
/-- f(e, ..), the last one by its default -/
theorem pe_calD (C : CalD X.prog X.w X.K X.mg X.base CX k x ps dv sp) (hr : Room k X.A) (hx : Passes CX X E) (ha : PA X (e :: es) t) (hg : Gl X x := by rfl) (hdb : (x == ("__debug__" : Str)) = false := by decide)
    (hs : (e :: es).all nostar = true := by rfl) : PE X (.Call (.Name x p) (e :: es) [] pos) (tCall sp [dv] E t) := by
  obtain ⟨f, fd, ds, g, kp, _, vd, b, F⟩ := C.ex
  simp only [List.all_cons, Bool.and_eq_true] at hs
  exact pe_call F hr hg g kp b vd hx ha hdb (star_ok hs.1) (back_ok hs.2)
end
/-! ### l.count(z) of a list of texts -/
def eqz (k : Str) (v : Value) : Bool := match v with
  | .str z _ => z.cps.toList == k.cps.toList
  | _ => false
theorem eqz_gives {k : Str} {t : Tok} : ∀ {us : List Value} {ns : List Str}, StrsAre us ns → ∀ y ∈ us, MeetsSeq.EqGives y (.str k t) (eqz k y)
  | _, _, .nil => fun y hy => by cases hy
  | _, _, .cons n t' h => fun y hy => by
    rcases List.mem_cons.mp hy with e | e
    · rw [e]
      exact SeqRoads2.EqGives.str n k t' t
    · exact eqz_gives h y e
theorem cps_beq (a b : Str) : (a.cps.toList == b.cps.toList) = (a == b) := by
  by_cases e : a = b
  · subst e
    simp
  · have h2 : ¬ a.cps.toList = b.cps.toList := fun h => e (by
      cases a with
      | mk x => cases b with
        | mk y => exact congrArg PySem.Str.mk (Array.toList_inj.mp h))
    rw [beq_eq_false_iff_ne.mpr e, beq_eq_false_iff_ne.mpr h2]
theorem eqz_count {k : Str} : ∀ {us : List Value} {ns : List Str}, StrsAre us ns → us.countP (eqz k) = ns.count k
  | _, _, .nil => rfl
  | _, _, .cons n t h => by
    have ih := eqz_count (k := k) h
    rw [List.countP_cons, List.count_cons, ih]
    show _ + (if (n.cps.toList == k.cps.toList) = true then 1 else 0) = _
    rw [cps_beq]
def rCntS : V → List V → Hp → VK → Prop := fun x xs H Q => ∃ (p : Addr) (z : Str), x = .ref p ∧ xs = [.str z] ∧ ∃ l : List Str, H p = some (.lst (ms l)) ∧ Q (.int (l.count z : Nat)) H
section
variable {X : Cx}
theorem cnt_L : MtR X "list.count" rCntS := by
  intro pins s σ H x xs v us Q I rx rxs h
  obtain ⟨p, k, rfl, rfl, ns, hs, q⟩ := h
  cases rx
  obtain ⟨u, rfl, ru⟩ := rxs.one
  obtain ⟨t, rfl⟩ := ru
  obtain ⟨its, rv, ⟨⟨cls, dd, data, sl⟩, n, ho, hc, hdn, hd⟩, hlen⟩ := I.list (xs := ms ns) (.inl (.inl hs))
  simp only at hc hd
  subst hc hd
  have hi := strs_of_vals rv
  refine call_meets PySem.F.slot_list_count ⟨_, ho, rfl⟩ PySem.F.entry_list_count (PySem.F.args_list_count_2 _ _)
    (SeqAt.list_countAt p its.toArray n dd sl (.str k t) (eqz k)) ⟨ho, fun y hy => (eqz_gives hi y (by simpa using hy)).at _ _, ?_⟩
  have ec : its.toArray.toList.countP (eqz k) = ns.count k := eqz_count hi
  refine ⟨.int (ns.count k : Nat), H, I.tok _, ⟨s.toks, ?_⟩, q⟩
  show Value.int ((its.toArray.toList.countP (eqz k) : Nat) : Int) s.toks = Value.int ((ns.count k : Nat) : Int) s.toks
  rw [ec]
end
theorem putNew {H H1 : Hp} {D : Addr} {o : HO} (x : Same H H1) (hD : H D = none) : Same H (upd H1 D o) := fun a o' h => by
  rw [upd_ne (ne_of_none h hD)]
  exact x a o' h
/-! ### list comprehensions over what stays: item i gives F i, one or none -/
def LcP (H1 : Hp) (D : Addr) (F : Nat → List V) (i : Nat) (H : Hp) : Prop := Same H1 H ∧ H D = some (.lst ((List.range i).map F).flatten)
section
variable {H1 H H4 : Hp} {D : Addr} {F : Nat → List V} {i : Nat} {y : V}
theorem flat_len1 (hF : ∀ i, (F i).length ≤ 1) : ∀ i, ((List.range i).map F).flatten.length ≤ i
  | 0 => Nat.le_refl _
  | i + 1 => by
    rw [List.range_succ, List.map_append, List.flatten_append, List.length_append]
    have h1 := flat_len1 hF i
    have h2 := hF i
    have h3 : (List.map F [i]).flatten.length = (F i).length := by
      rw [List.map_cons, List.map_nil, List.flatten_cons, List.flatten_nil, List.append_nil]
    rw [h3]
    omega
theorem flat_succ : ((List.range (i + 1)).map F).flatten = ((List.range i).map F).flatten ++ F i := by
  rw [List.range_succ, List.map_append, List.flatten_append]
  simp
theorem LcP.zero (nD : H1 D = none) : LcP H1 D F 0 (upd H1 D (.lst [])) := ⟨same_new nD, upd_same⟩
theorem LcP.put (h : LcP H1 D F i H) (nD : H1 D = none) (hF : ∀ i, (F i).length ≤ 1) (hi : i < 100000) (s : Same H H4) (e : F i = [y]) : ∃ acc, H4 D = some (.lst acc) ∧ acc.length < sizeLine ∧ LcP H1 D F (i + 1) (upd H4 D (.lst (acc ++ [y]))) :=
  ⟨_, s _ _ h.2, Nat.lt_of_le_of_lt (flat_len1 hF i) (Nat.lt_of_lt_of_le hi (by decide)), putNew (h.1.trans s) nD, by rw [upd_same, flat_succ, e]⟩
theorem LcP.skip (h : LcP H1 D F i H) (s : Same H H4) (e : F i = []) : LcP H1 D F (i + 1) H4 := ⟨h.1.trans s, by rw [s _ _ h.2, flat_succ, e, List.append_nil]⟩
end
section
variable {K : PySem.W.Frag} {a : Addr} {xs : List V} {g : TG} {tt : TT} {te : TE} {vs : List Nat} {σ : L2.St}
theorem lcL {H1 : Hp} {D : Addr} {Qd : Hp → Prop} (F : Nat → List V) (nD : H1 D = none) (hq : H1 a = some (.lst xs))
    (hs : ∀ i x H, xs[i]? = some x → LcP H1 D F i H → g x (wipe σ vs) H fun σ2 H2 => wipe σ2 vs = wipe σ vs ∧ tt σ2 H2 fun b H3 =>
      if b = true then te σ2 H3 fun y H4 => ∃ acc, H4 D = some (.lst acc) ∧ acc.length < sizeLine ∧ LcP H1 D F (i + 1) (upd H4 D (.lst (acc ++ [y]))) else LcP H1 D F (i + 1) H3) (hd : ∀ H, Same H1 H → H D = some (.lst ((List.range xs.length).map F).flatten) → Qd H) :
    ∃ W : Nat → Nat → Hp → Prop, (∃ m, W 0 m (upd H1 D (.lst []))) ∧ ∀ i m H, W i m H →
      ((Itl K a).stop i H ∧ Qd H) ∨ ((Itl K a).go i H ∧ ∃ Nx : Hp → Prop, (∀ H', Nx H' → ∃ m', m' < m ∧ W (i + 1) m' H') ∧ ∀ x H', (Itl K a).yld i H x H' → g x (wipe σ vs) H' fun σ2 H2 => wipe σ2 vs = wipe σ vs ∧ tt σ2 H2 fun b H3 =>
        if b = true then te σ2 H3 fun y H4 => ∃ acc, H4 D = some (.lst acc) ∧ acc.length < sizeLine ∧ Nx (upd H4 D (.lst (acc ++ [y]))) else Nx H3) :=
  lc_list (LcP H1 D F) (LcP.zero nD) (fun i H _ h => .inl (.inl (h.1 _ _ hq))) hs (fun H h => hd H h.1 h.2)
theorem lcT {H1 : Hp} {D : Addr} {Qd : Hp → Prop} (F : Nat → List V) (nD : H1 D = none) (hq : ∀ H, Same H1 H → SqT K H a xs)
    (hs : ∀ i x H, xs[i]? = some x → LcP H1 D F i H → g x (wipe σ vs) H fun σ2 H2 => wipe σ2 vs = wipe σ vs ∧ tt σ2 H2 fun b H3 =>
      if b = true then te σ2 H3 fun y H4 => ∃ acc, H4 D = some (.lst acc) ∧ acc.length < sizeLine ∧ LcP H1 D F (i + 1) (upd H4 D (.lst (acc ++ [y]))) else LcP H1 D F (i + 1) H3) (hd : ∀ H, Same H1 H → H D = some (.lst ((List.range xs.length).map F).flatten) → Qd H) :
    ∃ W : Nat → Nat → Hp → Prop, (∃ m, W 0 m (upd H1 D (.lst []))) ∧ ∀ i m H, W i m H →
      ((Itt K a).stop i H ∧ Qd H) ∨ ((Itt K a).go i H ∧ ∃ Nx : Hp → Prop, (∀ H', Nx H' → ∃ m', m' < m ∧ W (i + 1) m' H') ∧ ∀ x H', (Itt K a).yld i H x H' → g x (wipe σ vs) H' fun σ2 H2 => wipe σ2 vs = wipe σ vs ∧ tt σ2 H2 fun b H3 =>
        if b = true then te σ2 H3 fun y H4 => ∃ acc, H4 D = some (.lst acc) ∧ acc.length < sizeLine ∧ Nx (upd H4 D (.lst (acc ++ [y]))) else Nx H3) :=
  lc_tup (LcP H1 D F) (LcP.zero nD) (fun i H _ h => hq H h.1) hs (fun H h => hd H h.1 h.2)
/-- [.. for x in t], t a name of a list or a tuple -/
theorem lcQ {H : Hp} {Q : VK} {j : Nat} (F : Nat → List V) (hv : σ[j]? = some (some (.ref a))) (hq : Sq H a xs)
    (hs : ∀ D, H D = none → ∀ i x H', xs[i]? = some x → LcP H D F i H' → g x (wipe σ vs) H' fun σ2 H2 => wipe σ2 vs = wipe σ vs ∧ tt σ2 H2 fun b H3 =>
      if b = true then te σ2 H3 fun y H4 => ∃ acc, H4 D = some (.lst acc) ∧ acc.length < sizeLine ∧ LcP H D F (i + 1) (upd H4 D (.lst (acc ++ [y]))) else LcP H D F (i + 1) H3)
    (hd : ∀ D H', H D = none → Same H H' → H' D = some (.lst ((List.range xs.length).map F).flatten) → Q (.ref D) H') : tLc (iQ K (tVar j)) g tt te vs σ H Q := by
  rcases hq with hq | hq
  · exact .inl ⟨_, hv, a, rfl, ⟨_, .inl (.inl hq)⟩, fun D nD => lcL F nD hq (hs D nD) (fun H' => hd D H' nD)⟩
  · exact .inr ⟨_, hv, a, rfl, ⟨_, .inl (.inl hq)⟩, fun D nD => lcT F nD (fun H' s => .inl (.inl (s _ _ hq))) (hs D nD) (fun H' => hd D H' nD)⟩
end
/-- a loop over a list or tuple that was there before (at Hb) and stays -/
theorem forQ2 {K : PySem.W.Frag} {a : Addr} {xs : List V} {j : Nat} {g : TG} {tb : TS} {D : Ends} {σ : L2.St} {H Hb : Hp} (hv : σ[j]? = some (some (.ref a))) (hq : Sq Hb a xs) (Pv : Nat → L2.St → Hp → Prop) (h0 : Pv 0 σ H) (hS : ∀ i σ H', Pv i σ H' → Same Hb H')
    (hs : ∀ i x σ H, xs[i]? = some x → Pv i σ H → g x σ H fun σ2 H2 => tb { D with nx := Pv (i + 1), ct := Pv (i + 1), bk := D.nx } σ2 H2) (hd : ∀ σ H, Pv xs.length σ H → D.nx σ H) : tFor (iQ K (tVar j)) g tb D σ H := by
  rcases hq with hq | hq
  · exact .inl ⟨_, hv, a, rfl, ⟨_, .inl (.inl (hS _ _ _ h0 _ _ hq))⟩, for_list (K := K) (a := a) (xs := xs) Pv h0 (fun i σ H' _ p => .inl (.inl (hS i σ H' p _ _ hq))) hs hd⟩
  · exact .inr ⟨_, hv, a, rfl, ⟨_, .inl (.inl (hS _ _ _ h0 _ _ hq))⟩, for_tup (K := K) (a := a) (xs := xs) Pv h0 (fun i σ H' _ p => .inl (.inl (hS i σ H' p _ _ hq))) hs hd⟩
/-- o.m(e, ..) of a builtin, in a comprehension -/
theorem pe_bmK {X : Cx} {K : PySem.W.Frag} {T name id : String} {r : V → List V → Hp → VK → Prop} {o e : Expr} {es : List Expr} {to : TE} {t : TA} {apos cpos : Pos} (hK : X.K = K) (pa : PlainAttrs T) (slot : Slot T name id) (hty : typeOf (.builtin id) = pure (.type "method_descriptor")) (hm : MtR X id r) (ho : PE X o to) (ha : PA X (e :: es) t)
    (hbase : attributeBase o name X.env (eval o X.env) = eval o X.env := by rfl)
    (hfew : ((backTo cpos (starEach (e :: es) X.env)).all (fun x => !x.1) && (backToKw cpos (keywordEach [] X.env)).all (fun x => x.1.isSome)
      && decide ((e :: es).length + ([] : List Keyword).length + (if ([] : List Keyword).isEmpty then 0 else 1) < 30)) = true := by rfl)
    (hline : (apos.endLine == cpos.line) = true := by rfl) (hs : starEach (e :: es) X.env = (false, eval e X.env) :: starEach es X.env := by rfl) (hplain : (backTo cpos (starEach es X.env)).any (·.1) = false := by rfl) :
    PE X (.Call (.Attribute o name apos) (e :: es) [] cpos) (tBM K T r to t) := by
  subst hK
  exact pe_bm pa slot hty hm ho ha hbase hfew hline hs hplain
/-- list(a list or a tuple) -/
def rLstQ : List V → Hp → VK → Prop := fun vs H Q => ∃ p ys, vs = [.ref p] ∧ Sq H p ys ∧ ∀ l, H l = none → Q (.ref l) (upd H l (.lst ys))
theorem list_Q {X : Cx} : CallR X (.type "list") rLstQ := CallR.imp call_list_of fun xs H Q ⟨p, ys, e, h, q⟩ => ⟨p, ys, e, h.elim (fun h => .inl (.inl (.inl h))) (fun h => .inr (.inl (.inl h))), q⟩
end Fx
/-! Methods with one default, called by position, by name, without it; list(range(..)) -/
namespace Fx
open PySem PySem.Spec PyProof.Rows L2
abbrev BindK (x q : Str) (st : Stmt) (ps : List Str) (kw : Str) (n : Nat) : Prop := ∀ (T : Addr) (kV doc pm : Value) (an : Option Addr) (cdv ct : Value) (us its : List Value) (v : Value), us.length = n → its.length = 1 →
  ∃ k, bindArgs (PySem.W.fnOf x q (defArgs st) (defBody st) (defScope st) (.ref T) kV doc pm an cdv ct) ⟨us, [(kw, v)]⟩ = seqItems? (.ref T) >>= k ∧ k (some its.toArray) = pure (ps.zip (us ++ [v]))
def KwLast (K : PySem.W.Frag) (fd : FuncData) (ps : List Str) (kw : Str) : Prop := ∀ (s : Shared) (us : List Value) (v : Value), K.In s.heap → (us ++ [v]).length = ps.length → BindsTo s fd ⟨us, [(kw, v)]⟩ (ps.zip (us ++ [v]))
structure CalMD (P : Program) (w : World) (K : PySem.W.Frag) (mg : Str → Option Value) (base : Heap) (CX : CXT) (k : Nat) (C : Addr) (m : Str) (ps : List Str) (dv : V) (kw : Str) (sp : Sp) : Prop where
  ex : ∃ f fd ds, Meth K C m f ∧ Binds K fd ps [] ∧ Vals [dv] ds ∧ Binds K fd ps ds ∧ KwLast K fd ps kw ∧ FnOk P w K mg base CX k f fd ps sp
section
variable {P : Program} {w : World} {K : PySem.W.Frag} {mg : Str → Option Value} {base : Heap} {CX : CXT} {k : Nat} {C : Addr} {m : Str} {ps : List Str} {dv : V} {kw : Str} {sp : Sp}
theorem kwLast_of {x q : Str} {st : Stmt} {f : Addr} {fd : FuncData} (F : FunD K x q (defArgs st) (defBody st) (defScope st) [dv] [] f fd) (n : Nat) (hn : n + 1 = ps.length) (h : BindK x q st ps kw n) : KwLast K fd ps kw := by
  obtain ⟨oc, od, dV, kV, doc, pm, an, cdv, ct, osl, rfl, lk, hcd, hD, hK⟩ := F.ex
  rcases hD with ⟨e, _⟩ | ⟨_, T, o, its, m, rfl, lT, oT, rT⟩
  · exact absurd e (by simp)
  · intro s us v X hlen
    have l1 : its.length = 1 := rT.length.symm
    have l2 : us.length = n := by
      rw [List.length_append, List.length_singleton] at hlen
      omega
    obtain ⟨k, e1, e2⟩ := h T kV doc pm an cdv ct us its v l2 l1
    refine BindsTo.of_looks fun M => ?_
    rw [e1]
    exact looks_items X lT oT (.of_pure e2)
theorem calMD_of {x q : Str} {st : Stmt} {f : Addr} {fd : FuncData} (F : FunD K x q (defArgs st) (defBody st) (defScope st) [dv] [] f fd) (M : Meth K C m f) (n : Nat) (hn : n + 1 = ps.length) (b1 : BindD x q st ps (n + 1) 1) (b0 : BindD x q st ps n 0) (bk : BindK x q st ps kw n) (ok : FnOk P w K mg base CX k f fd ps sp) : CalMD P w K mg base CX k C m ps dv kw sp := by
  obtain ⟨ds1, v1, B1⟩ := F.binds1 (ps := ps) (n + 1) 1 (by simp) (by simpa using hn) b1
  obtain ⟨ds0, v0, B0⟩ := F.binds1 (ps := ps) n 0 (by simp) (by simpa using hn) b0
  have e : ds1 = [] := by
    cases v1
    rfl
  subst e
  exact ⟨f, fd, ds0, M, B1, v0, B0, kwLast_of F n hn bk, ok⟩
theorem KwLast.to {fd : FuncData} (h : KwLast K fd ps kw) (b : Binds K fd ps []) : KBinds K fd ps [kw] (fun us ws => us ++ ws.take 1) (fun vs zs => vs ++ zs.take 1) where
  to s us ws X hl := match ws, hl with
    | [], hl => by
      have e := b s us X (by simpa using hl)
      exact e
    | w :: r, hl => h s us w X hl
  rel r rz := r.append (rz.take 1)
end
section
variable {X : Cx} {k : Nat} {f C : Addr} {fd : FuncData} {ps : List Str} {sp : Sp} {x m kw : Str} {p pos apos : Pos} {e o : Expr} {es : List Expr} {kws : List Keyword} {ta : TE} {t tk : TA} {CX : CXT} {E : XK}
/-- o.m(e, .., kw = v) -/
def tMethK (C : Addr) (m : Str) (sp : Sp) (E : XK) (ta : TE) (t tk : TA) : TE := fun σ H Q => ta σ H fun x H1 => ∃ a dx fs, x = .ref a ∧ H1 a = some (.ins C dx fs) ∧ fs.lookup m = none ∧ t σ H1 fun vs H2 => tk σ H2 fun zs H3 => ∃ z, zs = [z] ∧ sp (x :: (vs ++ [z])) H3 Q E
theorem pe_methK {pl : Sem Bool} (he : PE X o ta) (c : Cls X.K C) (hm : Meth X.K C m f) (F : FnOk X.prog X.w X.K X.mg X.base CX k f fd ps sp) (hr : Room k X.A) (hb : Binds X.K fd ps []) (hl : KwLast X.K fd ps kw) (hx : Passes CX X E) (ha : PA X (e :: es) t) (hkw : PK X kws tk)
    (hall : (backToKw pos (keywordEach kws X.env)).all (·.1.isSome) = true := by rfl) (hks : (backToKw pos (keywordEach kws X.env)).filterMap (·.1) = [kw] := by rfl)
    (hst : starEach (e :: es) X.env = (false, eval e X.env) :: starEach es X.env := by rfl) (hpl : ((backTo pos (starEach (e :: es) X.env)).any (·.1) || (backToKw pos (keywordEach kws X.env)).any (·.1.isNone)) = false := by rfl)
    (ht : eval (.Call (.Attribute o m apos) (e :: es) kws pos) X.env = (do
      let ov ← eval o X.env
      standAt apos.atName
      let (f, first) ← holding [ov] (getMethod ov m pl)
      callWith pos f first (backTo pos (starEach (e :: es) X.env)) (backToKw pos (keywordEach kws X.env))) := by rfl) :
    PE X (.Call (.Attribute o m apos) (e :: es) kws pos) (tMethK C m sp E ta t tk) := by
  refine ⟨fun pins s σ H Q I h => ?_⟩
  refine PySem.W.methodCall_KW (pl := pl) (thn (he.run pins s σ H _ I h) fun u s1 ⟨x, H1, I1, rx, a, dx, fs, ex, ea, l, q⟩ => ?_) ht
  subst ex
  obtain rfl : u = Value.ref a := rx
  refine getmeth_ok I1 ea c hm l ?_
  refine PySem.W.callWith_KW (first := [.ref a]) (h₀ := X.base) I.ok.mod.kin hm.kp hall (thn (ha.run pos pins s1 σ H1 _ I1 q) fun us s2 ⟨vs, H2, I2, r, q2⟩ => ?_) hpl hst
  refine thn (hkw.run pos pins s2 σ H2 _ I2 q2) fun ws s3 ⟨zs, H3, I3, rz, z, ez, q3⟩ => ⟨I3.kIn, ?_⟩
  rw [hks]
  subst ez
  exact run_fnk (us := .ref a :: us) (vs := .ref a :: vs) F hr (hl.to hb) hx I3 (.cons rfl r) rz q3
end
/-- a while by a count that falls; the test's ways stay folded -/
theorem whileF {c : TT} {tb : TS} {D : Ends} {σ : L2.St} {H : Hp} (W : Nat → L2.St → Hp → Prop) (m : Nat) (h0 : W m σ H)
    (hs : ∀ m σ H, W m σ H → ∀ A B : Hp → Prop, (∀ H1, tb { D with nx := fun σ' H' => ∃ m', m' < m ∧ W m' σ' H', ct := fun σ' H' => ∃ m', m' < m ∧ W m' σ' H', bk := D.nx } σ H1 → A H1) → (∀ H1, D.nx σ H1 → B H1) → c σ H fun b H1 => if b = true then A H1 else B H1) : tWhile c tb D σ H := by
  refine ⟨W, ⟨m, h0⟩, fun m σ H p => ?_⟩
  exact hs m σ H p _ _ (fun H1 t => ⟨fun σ' H' => ∃ m', m' < m ∧ W m' σ' H', fun σ' H' k => k, t⟩) (fun H1 x => x)
end Fx
/-! Order of data: x > y of lists, sorted of data; a def with one default, by name -/
namespace Fx
open PySem PySem.Spec PyProof.Rows L2
def rGtD (K : PySem.W.Frag) : R2 := fun x y H Q => ∃ d e, Dp K H x d ∧ Dp K H y e ∧ PySem.W.alike d e = true ∧ d ≠ .none ∧ d.depth ≤ 8 ∧ Q (.bl (PySem.W.dataLt e d)) H
theorem op_gtD {X : Cx} (hu : X.A.units + 64 < cLine) : OpR X (compareOp .Gt) (rGtD X.K) := by
  intro pins s σ H x y v u Q I rx ry h
  obtain ⟨d, e, hd, he, al, nn, dp, q⟩ := h
  obtain ⟨as, r1⟩ := Dp.reads I d x v hd rx
  obtain ⟨bs, r2⟩ := Dp.reads I e y u he ry
  exact PySem.W.gt_data r1 r2 al nn (by omega) ⟨.bl _, H, I, rfl, q⟩
abbrev srtD (ps : List (V × PyData)) : List (V × PyData) := ps.mergeSort (PySem.W.dataLe false (fun p => p.2))
/-- sorted(xs), xs a list of tuples of any number, that are alike -/
def rSortD (K : PySem.W.Frag) : List V → Hp → VK → Prop := fun vs H Q => ∃ (a : Addr) (ps : List (V × PyData)), vs = [V.ref a] ∧ SqL K H a (ps.map (·.1)) ∧ (∀ p ∈ ps, Dp K H p.1 p.2) ∧ (∀ p ∈ ps, ∀ q ∈ ps, PySem.W.alike p.2 q.2 = true) ∧ (∀ p ∈ ps, ∃ x r, p.2 = .tuple (x :: r)) ∧ (∀ p ∈ ps, p.2.depth ≤ 8) ∧
  ∀ q, H q = none → Q (.ref q) (upd H q (.lst ((srtD ps).map (·.1))))
theorem each_of {X : Cx} {pins : List (Addr × Obj)} {σ : L2.St} {H : Hp} {s : Shared} (I : Inv X pins σ H s) : ∀ {ps : List (V × PyData)} {its : List Value}, Vals (ps.map (·.1)) its → (∀ p ∈ ps, Dp X.K H p.1 p.2) →
    PySem.W.EachIs (fun v (p : V × PyData) => RelV p.1 v) its ps ∧ PySem.W.EachIs (fun v (p : V × PyData) => ∃ as, Reads s.heap v p.2 as) its ps
  | [], its, r, _ => by
    cases r
    exact ⟨.nil, .nil⟩
  | p :: ps, its, r, h => by
    cases r with
    | cons r1 r2 =>
      obtain ⟨e1, e2⟩ := each_of I r2 fun q hq => h q (List.mem_cons_of_mem _ hq)
      exact ⟨.cons r1 e1, .cons (Dp.reads I p.2 p.1 _ (h p List.mem_cons_self) r1) e2⟩
theorem vals_each : ∀ {ps : List (V × PyData)} {out : List Value}, PySem.W.EachIs (fun v (p : V × PyData) => RelV p.1 v) out ps → Vals (ps.map (·.1)) out
  | _, _, .nil => .nil
  | _, _, .cons h t => .cons h (vals_each t)
theorem sort_D {X : Cx} (hu : X.A.units + 64 < cLine) : CallR X (.builtin "sorted") (rSortD X.K) := by
  intro pins s σ H vs us Q I r h
  obtain ⟨a, ps, rfl, hs, hd, al, tp, dp, q⟩ := h
  obtain ⟨its, rv, hl, hz⟩ := I.list hs
  obtain ⟨u, rfl, ru⟩ := r.one
  cases ru
  obtain ⟨e1, e2⟩ := each_of I rv hd
  have hz2 : ps.length ≤ sizeLine := by
    rw [List.length_map] at hz
    exact hz
  refine PySem.W.sorted_data (enc := fun p : V × PyData => p.2) hl.isList e1 e2 ?_ ?_ hz2 (fun b hb => by have := dp b hb; omega) fun out ol he => ?_
  · intro d hd d' hd'
    obtain ⟨b, hb, rfl⟩ := List.mem_map.mp hd
    obtain ⟨b', hb', rfl⟩ := List.mem_map.mp hd'
    exact al b hb b' hb'
  · refine .inl fun d hd => ?_
    obtain ⟨b, hb, rfl⟩ := List.mem_map.mp hd
    exact tp b hb
  obtain ⟨ep, he'⟩ := PyProof.Rows.sortedAll_at s.heap its out.toArray
  have hlen : ((srtD ps).map (·.1)).length ≤ sizeLine := by
    rw [List.length_map, List.length_mergeSort]
    exact hz2
  exact ⟨.ref _, upd H (s.heap.objs.size + 1) (.lst ((srtD ps).map (·.1))), I.laid (t' := s.toks) (fun _ _ => PyProof.Rows.sortedAll_old) (Nat.le_succ _) ⟨hlen, out, ep, vals_each he, he'⟩, rfl, q _ (I.hok.fresh (Nat.le_succ _))⟩
/-! ### a def with one default, by name -/
structure CalDK (P : Program) (w : World) (K : PySem.W.Frag) (mg : Str → Option Value) (base : Heap) (CX : CXT) (k : Nat) (x : Str) (ps : List Str) (dv : V) (kw : Str) (sp : Sp) : Prop where
  ex : ∃ f fd ds, mg x = some (.ref f) ∧ PySem.W.keepIn K (.ref f) = true ∧ Binds K fd ps [] ∧ Vals [dv] ds ∧ Binds K fd ps ds ∧ KwLast K fd ps kw ∧ FnOk P w K mg base CX k f fd ps sp
section
variable {P : Program} {w : World} {K : PySem.W.Frag} {mg : Str → Option Value} {base : Heap} {CX : CXT} {x : Str} {st : Stmt} {N ps : List Str} {k : Nat} {dv : V} {kw : Str} {sp : Sp}
theorem CalDK.d (M : CalDK P w K mg base CX k x ps dv kw sp) : CalD P w K mg base CX k x ps dv sp := by
  obtain ⟨f, fd, ds, g, kp, b, v, b0, _, F⟩ := M.ex
  exact ⟨f, fd, ds, g, kp, b, v, b0, F⟩
theorem CalDK.full (M : CalDK P w K mg base CX k x ps dv kw sp) : Cal P w K mg base CX k x ps sp := M.d.full
theorem SrcD.ofK (S : SrcD K mg x st dv) (n : Nat) (hn : n + 1 = ps.length) (b1 : BindD x x st ps (n + 1) 1) (b0 : BindD x x st ps n 0) (bk : BindK x x st ps kw n) (ok : ∀ {f fd}, FunD K x x (defArgs st) (defBody st) (defScope st) [dv] [] f fd → FnOk P w K mg base CX k f fd ps sp) : CalDK P w K mg base CX k x ps dv kw sp := by
  obtain ⟨f, fd, g, F⟩ := S
  obtain ⟨ds1, v1, B1⟩ := F.binds1 (ps := ps) (n + 1) 1 (by simp) (by simpa using hn) b1
  obtain ⟨ds0, v0, B0⟩ := F.binds1 (ps := ps) n 0 (by simp) (by simpa using hn) b0
  have e : ds1 = [] := by
    cases v1
    rfl
  subst e
  exact ⟨f, fd, ds0, g, F.kp, B1, v0, B0, kwLast_of F n hn bk, ok F⟩
end
section
variable {X : Cx} {CX : CXT} {E : XK} {k : Nat} {x kw : Str} {ps : List Str} {dv : V} {sp : Sp} {e : Expr} {es : List Expr} {kws : List Keyword} {t tk : TA} {p pos : Pos}
/-- f(e, .., kw = v) -/
theorem pe_calDK (C : CalDK X.prog X.w X.K X.mg X.base CX k x ps dv kw sp) (hr : Room k X.A) (hx : Passes CX X E) (ha : PA X (e :: es) t) (hkw : PK X kws tk) (hg : Gl X x := by rfl)
    (hall : (backToKw pos (keywordEach kws X.env)).all (·.1.isSome) = true := by rfl) (hks : (backToKw pos (keywordEach kws X.env)).filterMap (·.1) = [kw] := by rfl)
    (hdb : (x == ("__debug__" : Str)) = false := by decide) (he : starEach (e :: es) X.env = (false, eval e X.env) :: starEach es X.env := by rfl)
    (hpl : ((backTo pos (starEach (e :: es) X.env)).any (·.1) || (backToKw pos (keywordEach kws X.env)).any (·.1.isNone)) = false := by rfl) :
    PE X (.Call (.Name x p) (e :: es) kws pos) (tCallK sp (fun vs zs => vs ++ zs.take 1) E t tk) := by
  obtain ⟨f, fd, ds, g, kp, b, _, _, kl, F⟩ := C.ex
  exact pe_callK F hr hg g kp (kl.to b) hx ha hkw hall hks hdb he hpl
end
theorem blkOk_cast {N : List Str} {sc sc' scope : Scope} {own : List (Str × Nat)} (e : sc' = sc) (h : BlkOk N sc scope own) : BlkOk N sc' scope own := e ▸ h
end Fx
/-! list(o) of an object whose __iter__ gives a list's iterator; an own __setitem__; a staticmethod called by its class; several except clauses with a name -/
namespace Fx
open PySem PySem.Spec PyProof.Rows L2
/-! ### iter(t), t a tuple; list(o) of an instance whose __iter__ says iter(self.f) -/
def LItO (p it : Addr) (i : Nat) : HO := .ext fun h => h.IsListIter it p i
theorem litO_ok {P : Program} {w : World} {H : Hp} {h : Heap} {p it : Addr} {i : Nat} (e : h.IsListIter it p i) : ObjOk P w H h it (LItO p it i) := ⟨e, let ⟨o, ho, _⟩ := e; ⟨o, ho⟩, fun h1 h2 q k => let ⟨o, ho, r⟩ := q; ⟨o, k _ ho, r⟩⟩
section
variable {prog : Program} {w : World} {A : Around} {E : Value → Shared → Prop} {s : Shared}
theorem call_iterL0 {t : Addr} {items : Array Value} {Q : Value → Shared → Prop} (hl : s.heap.IsList t items) (h : Q (.ref s.heap.objs.size) { s with heap := s.heap.push { cls := .type "list_iterator", data := .fields #[.ref t, .int 0 0] } }) : wpAny (model prog w) A (call (.builtin "iter") [.ref t]) Q E s := by
  refine Calls.call_function_entry (by decide +kernel) (by decide +kernel) PySem.W.kdk_entry_iter (PySem.W.kdk_args_iter _) ?_
  unfold Builtin.«iter»
  refine wpAny_bind (m := someArgs "iter" 1 2 _) (wpAny_of_eq (a := [Value.ref t]) (by first | rfl | kernel_rfl!) ?_)
  show wpAny _ _ (pyIter (.ref t) >>= _) _ _ _
  refine wpAny_bind (wpAny_pyIter_list hl ?_)
  exact wpAny_pure ⟨_, rfl, h⟩
/-- the end, with the iterator still there -/
theorem next_list_endX {it t : Addr} {i : Nat} {items : Array Value} {Q : Option Value → Shared → Prop} (hh : A.handled = none)
    (hit : s.heap.IsListIter it t i) (ht : s.heap.IsList t items) (hx : items[i]? = none)
    (hQ : ∀ h', Heap.ExtBut it s.heap h' → (∃ o, h'.get? it = some o) → Q none { s with heap := h' }) : wpAny (model prog w) A (pyNext (.ref it)) Q E s := by
  obtain ⟨o, ho, hc, hd⟩ := id hit
  obtain ⟨ol, hol, _, nl, hdl⟩ := ht
  unfold pyNext
  refine wpAny_bind (wpAny_attempt (wpAny_callSpecial?_slot (name := Str.ofString "__next__") hit.typeIs slot_listiter_next
    (wpAny_call_entry slot_listiter_next hit.typeIs entry_listiter_next ?_ (args_listiter_next _))))
  show wpAny _ _ (field (.ref it) 0 >>= _) _ _ s
  refine wpAny_bind (wpAny_field ho hd (x := .ref t) rfl ?_)
  show wpAny _ _ (if (Value.ref t == Value.none) = true then _ else _) _ _ s
  rw [if_neg (show ¬ ((Value.ref t == Value.none) = true) from Bool.false_ne_true)]
  show wpAny _ _ (field (.ref it) 1 >>= _) _ _ s
  refine wpAny_bind (wpAny_field ho hd (x := .int i 0) rfl ?_)
  show wpAny _ _ (seqItems? (.ref t) >>= _) _ _ s
  refine wpAny_bind (wpAny_seqItems hol hdl ?_)
  simp only [Int.toNat_natCast, hx]
  refine wpAny_bind (wpAny_rule (wpAny_bind (wpAny_setField ho hd (by simp) ?_)))
  show wpAny _ _ (newExc (.type "StopIteration") [] >>= _) _ _ _
  refine wpAny_bind ?_
  simp only [newExc, newTuple]
  refine wpAny_bind (wpAny_newObj_type ?_ (by size_fits))
  refine wpAny_bind (m := firstArgMember _ _) (wpAny_of_eq (a := Value.none) (by first | rfl | (simp only [firstArgMember]; rfl)) ?_)
  refine wpAny_newObj_type ?_ (by size_fits)
  simp only [raiseNew]
  refine wpAny_bind (wpAny_handled ?_)
  first | rw [show A.in1.handled = none from hh] | rw [hh]
  refine wpAny_bind (wpAny_pure (wpAny_throw ?_))
  refine wpAny_bind (wpAny_isInstance (T := "StopIteration") (b := true) ⟨_, Heap.get?_push_size _ rfl, rfl⟩ isSubtype_stop ?_)
  refine wpAny_pure (hQ _ (((Heap.SameBut.update ..).extBut.push _).push _) ⟨_, Heap.get?_push_of_some _ (Heap.get?_push_of_some _ (Heap.get?_update_self _ ho (Obj.isFreed_of_fields (Obj.data_mapFields hd _))))⟩)
end
section
variable {X : Cx}
/-- iter(t) -/
def rIterL : List V → Hp → VK → Prop := fun xs H Q => ∃ t, xs = [.ref t] ∧ ∃ zs, H t = some (.lst zs) ∧ ∀ it, H it = none → Q (.ref it) (upd H it (LItO t it 0))
theorem iter_L : CallR X (.builtin "iter") rIterL := by
  intro pins s σ H xs us Q I r h
  obtain ⟨t, rfl, zs, hq, q⟩ := h
  obtain ⟨u, rfl, ru⟩ := r.one
  cases ru
  obtain ⟨its, rv, pl, hz⟩ := I.list (xs := zs) (.inl (.inl hq))
  refine call_iterL0 pl.isList ?_
  exact ⟨.ref s.heap.objs.size, _, I.laid (t' := s.toks) (fun b u e => Heap.get?_push_of_some _ e) (Nat.le_refl _) (litO_ok ⟨_, Heap.get?_push_size _ rfl, rfl, rfl⟩), rfl, q _ (I.hok.fresh (Nat.le_refl _))⟩
variable {pins : List (Addr × Obj)} {σ : L2.St} {A1 : Around}
theorem lst_loop {H0 : Hp} {p it q : Addr} {ys : List V} {Rs : Result → Shared → Prop} (hh : A1.handled = none) (hiq : it ≠ q) (hpi : p ≠ it) (hpq : p ≠ q) (hp : H0 p = some (.lst ys)) (hl : ys.length ≤ sizeLine)
    (hdone : ∀ s, Inv X pins σ (upd (upd H0 it (EndO it)) q (.lst ys)) s → Rs (.ok (.ret .none)) s) :
    ∀ (m i : Nat) (s : Shared), ys.length - i = m → i ≤ ys.length → Inv X pins σ (upd (upd H0 it (LItO p it i)) q (.lst (ys.take i))) s → codeAny (model X.prog X.w) A1 (.builtin "list.extend.loop" ⟨[.ref q, .ref it, .none], []⟩) Rs s := by
  intro m
  induction m with
  | zero =>
    intro i s hm hi I
    have ei : i = ys.length := by omega
    refine codeAny_builtin PySem.F.entry_extend_loop ?_
    rw [Around.under_plainId PySem.F.plain_extend_loop _]
    show wpAny _ A1.in1 (pyNext (.ref it) >>= _) _ _ s
    have hH : upd (upd H0 it (LItO p it i)) q (.lst (ys.take i)) it = some (LItO p it i) := by rw [upd_ne hiq, upd_same]
    have hP : upd (upd H0 it (LItO p it i)) q (.lst (ys.take i)) p = some (.lst ys) := by rw [upd_ne hpq, upd_ne hpi]; exact hp
    have hit : s.heap.IsListIter it p i := (I.hok it _ hH).1
    obtain ⟨its, rv, pl, hz⟩ := I.list (xs := ys) (.inl (.inl hP))
    refine wpAny_bind (next_list_endX (A := A1.in1) hh hit pl.isList (by rw [List.getElem?_toArray]; exact rv.none_of (by rw [ei]; exact List.getElem?_eq_none (Nat.le_refl _))) fun h' eb ex => ?_)
    refine wpAny_pure (hdone _ ?_)
    have mu : Mut (upd (upd H0 it (LItO p it i)) q (.lst (ys.take i)) it) := by rw [hH]; exact True.intro
    have I2 := I.write (x := it) (e := it) (t' := s.toks) mu (.inl rfl) (fun b o nb z => eb b o nb z) ex (endO_ok (H := upd (upd (upd H0 it (LItO p it i)) q (.lst (ys.take i))) it (EndO it)) ex)
    rw [upd_in hiq, ei, List.take_length] at I2
    exact I2
  | succ m ih =>
    intro i s hm hi I
    have hlt : i < ys.length := by omega
    refine codeAny_builtin PySem.F.entry_extend_loop ?_
    rw [Around.under_plainId PySem.F.plain_extend_loop _]
    show wpAny _ A1.in1 (pyNext (.ref it) >>= _) _ _ s
    have hH : upd (upd H0 it (LItO p it i)) q (.lst (ys.take i)) it = some (LItO p it i) := by rw [upd_ne hiq, upd_same]
    have hP : upd (upd H0 it (LItO p it i)) q (.lst (ys.take i)) p = some (.lst ys) := by rw [upd_ne hpq, upd_ne hpi]; exact hp
    have hit : s.heap.IsListIter it p i := (I.hok it _ hH).1
    obtain ⟨its, rv, pl, hz⟩ := I.list (xs := ys) (.inl (.inl hP))
    obtain ⟨u, hu, ru⟩ := rv.get (List.getElem?_eq_getElem hlt)
    refine wpAny_bind (wpAny_pyNext_list_item hit pl.isList (x := u) (by rw [List.getElem?_toArray]; exact hu) fun h' e' sb => ?_)
    have mu : Mut (upd (upd H0 it (LItO p it i)) q (.lst (ys.take i)) it) := by rw [hH]; exact True.intro
    have ex : ∃ o, h'.get? it = some o := let ⟨o, ho, _⟩ := e'; ⟨o, ho⟩
    have I2 := I.write (x := it) (e := it) (t' := s.toks) mu (.inl rfl) (fun b o nb z => (sb.2 b nb).trans z) ex (litO_ok (H := upd (upd (upd H0 it (LItO p it i)) q (.lst (ys.take i))) it (LItO p it (i + 1))) e')
    rw [upd_in hiq] at I2
    have hq2 : upd (upd H0 it (LItO p it (i + 1))) q (.lst (ys.take i)) q = some (.lst (ys.take i)) := upd_same
    obtain ⟨z, its2, k, r2, hl2, e2⟩ := I2.lstM hq2
    show wpAny _ A1.in1 (updateSeq q (·.push u) >>= _) _ _ _
    have lt : (ys.take i).length = i := by rw [List.length_take]; omega
    refine wpAny_bind (wpAny_updateSeq e2 rfl (wpAny_pure ⟨plainId_quiet PySem.F.plain_extend_loop _, ?_⟩) (by rw [List.size_toArray]; omega) (by show (its2.toArray.push u).size ≤ sizeLine + 1; rw [Array.size_push, List.size_toArray]; omega))
    have I3 := I2.lset (f := (·.push u)) (its' := its2 ++ [u]) (ys := ys.take i ++ [ys[i]]) (t' := s.toks) hq2 e2 (by simp) (r2.append (.cons ru .nil)) (by rw [List.length_append, List.length_singleton]; omega)
    rw [upd_upd, List.take_append_getElem hlt] at I3
    exact ih (i + 1) _ (by omega) hlt I3
end
end Fx
namespace Fx
open PySem PySem.Spec PyProof.Rows L2
section
variable {X : Cx} {k : Nat} {C : Addr} {psI psL : List Str} {spI spL : Sp}
/-- list(o) -/
def rListOL (C : Addr) (spI spL : Sp) : List V → Hp → VK → Prop := fun xs H Q => ∃ a, xs = [.ref a] ∧ ∃ dx fs, H a = some (.ins C dx fs) ∧ ∀ q, H q = none → spI [.ref a] (upd H q (.lst [])) (fun v H1 => ∃ it, v = .ref it ∧ ∃ p, H1 it = some (LItO p it 0) ∧ ∃ dx fs, H1 a = some (.ins C dx fs) ∧
  spL [.ref a] H1 (fun v2 H2 => ∃ n, v2 = .int n ∧ 0 ≤ n ∧ n ≤ 1000000 ∧ H2 it = some (LItO p it 0) ∧ H2 q = some (.lst []) ∧ ∃ ys, H2 p = some (.lst ys) ∧ p ≠ q ∧ Q (.ref q) (upd (upd H2 it (EndO it)) q (.lst ys))) E0) E0
theorem list_OL (MI : CalM X.prog X.w X.K X.mg X.base CX0 k C "__iter__" psI spI) (ML : CalM X.prog X.w X.K X.mg X.base CX0 k C "__len__" psL spL) (hc : X.calm = true) (hr : Room (k + 3) X.A) : CallR X (.type "list") (rListOL C spI spL) := by
  intro pins s σ H xs us Q I rv h
  obtain ⟨a, rfl, dx, fs, ha, hq⟩ := h
  obtain ⟨u, rfl, ru⟩ := rv.one
  cases ru
  refine callType_codes (Q₁ := fun obj s₁ => obj = .ref s.heap.objs.size ∧ s₁ = { s with heap := s.heap.push { cls := .type "list", data := .seq #[] } }) PySem.F.called_list (PySem.F.typeCall_list_1 _) PySem.F.entry_list_init
    (code_list_new _ ⟨rfl, rfl⟩) fun obj s₁ h₁ => ?_
  obtain ⟨rfl, rfl⟩ := h₁
  have hS : (s.heap.push { cls := .type "list", data := .seq #[] }).get? s.heap.objs.size = some { cls := .type "list", data := .seq #[] } := Heap.get?_push_size _ rfl
  refine ⟨⟨_, hS, rfl⟩, PySem.F.args_list_init_2 _ _, ?_⟩
  have fr : H s.heap.objs.size = none := I.hok.fresh (Nat.le_refl _)
  have hq := hq _ fr
  have I1 : Inv X pins σ (upd H s.heap.objs.size (.lst [])) { s with heap := s.heap.push { cls := .type "list", data := .seq #[] } } := I.lnew (its := []) (t' := s.toks) .nil (Nat.zero_le _)
  show wpAny _ _ (do let old ← Builtin.List.listItems (.ref s.heap.objs.size); Builtin.List.listUpdate (.ref s.heap.objs.size) (fun _ => #[]); letGo old.toList.reverse; Builtin.List.listExtendWith (.ref s.heap.objs.size) (.ref a) .none) _ _ _
  refine wpAny_bind ?_
  unfold Builtin.List.listItems
  refine wpAny_bind (wpAny_seqItems hS rfl (wpAny_pure ?_))
  show wpAny _ _ (updateSeq s.heap.objs.size (fun _ => #[]) >>= fun _ => letGo (#[] : Array Value).toList.reverse >>= fun _ => Builtin.List.listExtendWith (.ref s.heap.objs.size) (.ref a) .none) _ _ _
  refine wpAny_bind (wpAny_updateSeq hS rfl ?_)
  have I2 := I1.lset (f := fun _ => #[]) (its := []) (its' := []) (ys := []) (t' := s.toks) upd_same hS rfl .nil (Nat.zero_le _)
  rw [upd_upd] at I2
  refine wpAny_bind (wpAny_letGo ?_)
  have ha2 : upd H s.heap.objs.size (.lst []) a = some (.ins C dx fs) := by rw [upd_ne (ne_of_none ha fr)]; exact ha
  generalize s.heap.objs.size = q at *
  have hne : q ≠ a := fun e => by
    rw [e, ha] at fr
    cases fr
  obtain ⟨fi, fdi, mi, bi, Fi⟩ := MI.ex
  obtain ⟨ox, od, J⟩ := inst_at I2 ha2
  obtain ⟨mm, hF⟩ := I2.fr
  have hr1 : Room k X.A.in1.in1 := (Room.in1 (Room.in1 hr)).mono (Nat.le_succ _)
  unfold Builtin.List.listExtendWith
  refine wpAny_bind (J.type.here ?_)
  have h1 : Builtin.List.listSameRef (.ref q) (.ref a) = false := by simp [Builtin.List.listSameRef, hne]
  have h2 : (Value.ref C == Value.type "list") = false := rfl
  have h3 : (Value.ref C == Value.type "tuple") = false := rfl
  simp only [h1, h2, h3, Bool.or_false, Bool.false_eq_true, if_false]
  refine wpAny_bind (PySem.W.owit_iter hF I2.ok.mod.kin J mi.at_ mi.fn ?_)
  refine wpAny_mono (run_fn0 (E' := fun _ _ => False) (A := X.A.in1.in1) (vs := [.ref a]) (us := [.ref a]) rfl Fi hr1 bi I2 (.cons rfl .nil) hq) (fun v s' hv => ?_) fun _ _ z => z.elim
  obtain ⟨z, H1, I3, rz, it, rfl, p, hit, dx1, fs1, ha3, hsp⟩ := hv
  cases rz
  have hit0 : s'.heap.IsListIter it p 0 := (I3.hok it _ hit).1
  unfold PySem.W.OwitIt
  refine wpAny_specialOf (name := Str.ofString "__next__") hit0.typeIs slot_listiter_next.lookup ?_
  refine wpAny_bind (wpAny_holding ?_)
  refine own_hintL (A := X.A.in1.in1) rfl ML ((Room.in1 (Room.in1 hr))) I3 ha3 (R := fun H2 => H2 it = some (LItO p it 0) ∧ H2 q = some (.lst []) ∧ ∃ ys, H2 p = some (.lst ys) ∧ p ≠ q ∧ Q (.ref q) (upd (upd H2 it (EndO it)) q (.lst ys))) hsp (fun room H2 s2 I4 hR => ?_)
  obtain ⟨hi2, hq2, ys, hp2, hpq, hQ⟩ := hR
  have hiq : it ≠ q := ne_of hi2 hq2 (by unfold LItO; intro z; cases z)
  have hpi : p ≠ it := ne_of hp2 hi2 (by unfold LItO; intro z; cases z)
  have hl : ys.length ≤ sizeLine := (I4.hok p _ hp2).1
  have e0 : upd (upd H2 it (LItO p it 0)) q (.lst (ys.take 0)) = H2 := by
    funext c
    unfold upd
    by_cases h1 : c = q
    · rw [if_pos h1, h1]
      exact hq2.symm
    · rw [if_neg h1]
      by_cases h2 : c = it
      · rw [if_pos h2, h2]
        exact hi2.symm
      · rw [if_neg h2]
  have go : ∀ s3, Inv X pins σ H2 s3 → codeAny (model X.prog X.w) X.A.in1 (.builtin "list.extend.loop" ⟨[.ref q, .ref it, .none], []⟩) (wants (fun r s₂ => r = .none ∧ EP X pins σ Q (.ref q) s₂) X.xe) s3 := fun s3 I5 =>
    lst_loop (A1 := X.A.in1) (H0 := H2) (show X.A.in1.handled = none from I5.ok.hd hc) hiq hpi hpq hp2 hl (fun s4 I6 => ⟨rfl, .ref q, _, I6, rfl, hQ⟩) ys.length 0 s3 (by omega) (Nat.zero_le _) (by rw [e0]; exact I5)
  obtain ⟨z, its, kk, r3, hl3, e3⟩ := I4.lstM hq2
  cases r3
  refine wpAny_ite_split (fun _ => ?_) (fun _ => wpAny_pure ⟨plainId_quiet PySem.F.plain_extend_loop _, go _ I4⟩)
  refine wpAny_bind (wpAny_rule ?_)
  refine wpAny_bind ?_
  show wpAny _ _ (updateSeq q (·.push .none) >>= fun _ => updateSeq q (·.pop)) _ _ _
  refine wpAny_bind (wpAny_updateSeq e3 rfl ?_)
  have J2 := I4.lset (f := (·.push Value.none)) (its' := [Value.none]) (ys := [.non]) (t' := s2.toks) hq2 e3 (by simp) (.cons rfl .nil) (by rw [List.length_singleton, sizeLine_eq]; decide)
  obtain ⟨z4, its4, k4, r4, hl4, e4⟩ := J2.lstM upd_same
  obtain ⟨u4, rfl, ru4⟩ := r4.one
  refine wpAny_updateSeq e4 rfl ?_ (by show 1 ≤ sizeLine; rw [sizeLine_eq]; decide) (by show 0 ≤ sizeLine + 1; exact Nat.zero_le _)
  refine wpAny_pure ⟨plainId_quiet PySem.F.plain_extend_loop _, go _ ?_⟩
  have J3 := J2.lset (f := (·.pop)) (its := [u4]) (its' := []) (ys := []) (t' := s2.toks) upd_same e4 (by rfl) .nil (Nat.zero_le _)
  rw [upd_upd] at J3
  have hH : upd H2 q (.lst []) = H2 := by
    funext b
    by_cases hb : b = q
    · rw [hb, upd_same, hq2]
    · rw [upd_ne hb]
  rw [hH] at J3
  exact J3
end
end Fx
namespace Fx
open PySem PySem.Spec PyProof.Rows L2
section
variable {X : Cx} {CX : CXT} {k : Nat} {C : Addr} {ps : List Str} {sp : Sp} {E : XK}
/-- o[i] = v by the own __setitem__ -/
def rSetO (C : Addr) (sp : Sp) (E : XK) : TSet := fun o i v H Q => ∃ a dx fs, o = .ref a ∧ H a = some (.ins C dx fs) ∧ sp [.ref a, i, v] H (fun _ H' => Q H') E
theorem set_O (M : CalM X.prog X.w X.K X.mg X.base CX k C "__setitem__" ps sp) (hq : PySem.W.noSeq X.K C = true) (hr : Room k X.A) (hx : Passes CX X E) : PSet X (rSetO C sp E) := by
  intro pins s σ H o i v ov iv u Q I ro ri rv h
  obtain ⟨f, fd, m, b, F⟩ := M.ex
  obtain ⟨a, dx, fs, rfl, hA, hsp⟩ := h
  cases ro
  obtain ⟨ox, od, J⟩ := inst_at I hA
  unfold setItem sequenceKey
  refine wpAny_holding (wpAny_bind (wpAny_bind (J.type.here ?_)))
  refine wpAny_bind ((PySem.W.anyM_none I.kIn hq).here ?_)
  rw [if_pos (show (!false) = true from rfl)]
  refine wpAny_pure (wpAny_bind (PySem.W.special_fn I.kIn J m.at_ (beq_iff_eq.mp m.fn) ?_))
  refine wpAny_mono (run_fnA (vs := [.ref a, i, v]) (us := [.ref a, iv, u]) rfl F hr b hx I (.cons rfl (.cons ri (.cons rv .nil))) hsp) (fun w s' hv => ?_) fun _ _ z => z
  obtain ⟨z, H', I', _, q⟩ := hv
  exact wpAny_pure ⟨H', I', q⟩
end
/-! ### a staticmethod, called by its class -/
structure CSta (K : PySem.W.Frag) (C : Addr) (mc : Value) (m : Str) (p g : Addr) : Prop where
  at_ : PySem.W.findCls K (.ref C) mc m = some (.get (.builtin "staticmethod.__get__") (.ref p) .none (.ref C))
  rc : ∃ rest, PySem.W.recIn K p "staticmethod" = some (.ref g :: rest)
  kp : PySem.W.keepIn K (.ref g) = true
section
variable {X : Cx} {CX : CXT} {k : Nat} {C p g : Addr} {mc : Value} {m : Str} {fd : FuncData} {ps : List Str} {sp : Sp} {E : XK} {o e : Expr} {es : List Expr} {ta : TE} {t : TA} {pos apos : Pos}
/-- e.m(..), e the class at C, m a staticmethod -/
def tSMeth (C : Addr) (sp : Sp) (E : XK) (ta : TE) (t : TA) : TE := fun σ H Q => ta σ H fun x H1 => x = .ref C ∧ t σ H1 fun vs H2 => sp vs H2 Q E
theorem pe_smeth {pl : Sem Bool} (he : PE X o ta) (r : ClX.CRead X.K C mc) (c : CSta X.K C mc m p g) (F : FnOk X.prog X.w X.K X.mg X.base CX k g fd ps sp) (hr : Room k X.A) (hb : Binds X.K fd ps []) (hx : Passes CX X E) (ha : PA X (e :: es) t)
    (hst : starEach (e :: es) X.env = (false, eval e X.env) :: starEach es X.env := by rfl) (hpl : (backTo pos (starEach es X.env)).any (·.1) = false := by rfl)
    (ht : eval (.Call (.Attribute o m apos) (e :: es) [] pos) X.env = (do
      let ov ← eval o X.env
      standAt apos.atName
      let (f, first) ← holding [ov] (getMethod ov m pl)
      callWith pos f first (backTo pos (starEach (e :: es) X.env)) (backToKw pos (keywordEach [] X.env))) := by rfl) :
    PE X (.Call (.Attribute o m apos) (e :: es) [] pos) (tSMeth C sp E ta t) := by
  refine ⟨fun pins s σ H Q I h => ?_⟩
  refine PySem.W.methodCall_KW (pl := pl) (thn (he.run pins s σ H _ I h) fun u s1 ⟨x, H1, I1, rx, ex, q⟩ => ?_) ht
  subst ex
  obtain rfl : u = Value.ref C := rx
  obtain ⟨rest, hp⟩ := c.rc
  refine PySem.W.method_cls I1.kIn r.ga ?_
  refine PySem.W.cls_bind I1.kIn r.rd c.at_ ?_
  refine wpAny_call (PySem.W.sm_get (s := { s1 with toks := s1.toks + 1 }) I1.kIn hp (PySem.W.handed_on rfl ?_))
  refine PySem.W.callWith_K (first := []) (h₀ := X.base) I1.ok.mod.kin c.kp (thn (ha.run pos pins _ σ H1 _ (I1.tok _) q) fun us s2 ⟨vs, H2, I2, rv, q2⟩ => ⟨I2.kIn, ?_⟩) hst hpl
  exact run_fnA rfl F hr hb hx I2 rv q2
end
/-! ### several except clauses, each with the name n -/
def wManyAs (K : PySem.W.Frag) (i : Nat) (Wout : WX) (D : Ends) : List (Value × (Addr → Value → Option Addr → TS)) → WX
  | [] => Wout
  | (c, ts) :: r => fun cls d σ H => ∃ b, PySem.W.exmOne K cls c = some b ∧ (b = true → ∀ a, H a = none → ts a cls d { nx := fun σ' H' => D.nx (σ'.set i none) H', rt := D.rt, bk := fun σ' H' => D.bk (σ'.set i none) H', ct := fun σ' H' => D.ct (σ'.set i none) H' } (σ.set i (some (.ref a))) H) ∧ (b = false → wManyAs K i Wout D r cls d σ H)
inductive HdsAs (X : Cx) (n : Str) : List ExceptHandler → List (Value × (Addr → Value → Option Addr → TS)) → Prop
  | nil : HdsAs X n [] []
  | cons {x : Str} {c : Value} {ts : Addr → Value → Option Addr → TS} {b₀ : Stmt} {suite : List Stmt} {np pos' : Pos} {hds : List ExceptHandler} {l : List (Value × (Addr → Value → Option Addr → TS))} (hc : Names X x c)
      (hsu : ∀ (a : Addr) (oe : Obj) (cls : Value) (d : Option Addr) (pn : List (Addr × Obj)), Zc cls d oe → (∃ vs, oe.data = .fields vs) → PSs (X.suite a ((a, oe) :: pn)) (b₀ :: suite) (ts a cls d)) (r : HdsAs X n hds l) :
      HdsAs X n (.ExceptHandler (some (.Name x np)) (some n) (b₀ :: suite) pos' :: hds) ((c, ts) :: l)
section
variable {X : Cx} {n : Str} {i : Nat} {pins : List (Addr × Obj)} {σ : L2.St} {H : Hp} {s : Shared} {a : Addr} {cls : Value} {d : Option Addr} {B : Heap}
/-- an error at a is caught: the state in which the clauses are asked -/
structure Caught (X : Cx) (pins : List (Addr × Obj)) (σ : L2.St) (H : Hp) (a : Addr) (cls : Value) (d : Option Addr) (B : Heap) (s : Shared) : Prop where
  inv : Inv X pins σ H s
  fly : HandSPX.FlyingZ B (X.env :: X.outer) a (Zc cls d) s.heap
  na : H a = none
  nL : a ≠ X.env.locals
  nF : a ∉ X.fs
  on : ∀ h, HandSPX.FlyingZ B (X.env :: X.outer) a (Zc cls d) h → s.heap.UpToSlots h → Inv X pins σ H { s with heap := h }
/-- the clause's class is asked by its name -/
theorem Caught.test {oe : Obj} (C : Caught X pins σ H a cls d B s) (he : s.heap.get? a = some oe) {vs : Array Value} (hd : oe.data = .fields vs) {x : Str} {c : Value} {np : Pos} (hc : Names X x c) {Q : Value → Shared → Prop} {E : Value → Shared → Prop} (q : Q c s) :
    wpAny (model X.prog X.w) (X.A.mark (some (.ref a))) (eval (.Name x np) X.env) Q E s := by
  have S := C.inv.suite he hd C.na C.nL C.nF
  obtain ⟨g, nd, k⟩ := hc
  rcases k with k | ⟨k, k2, k3⟩
  · exact ld_glob (X := X.suite a ((a, oe) :: (X.pn ++ pins))) S g k q nd
  · exact ld_blt (X := X.suite a ((a, oe) :: (X.pn ++ pins))) S g k k2 q k3 nd
/-- one clause -/
theorem Caught.clause (C : Caught X pins σ H a cls d B s) (hfr : X.A.frames = some (X.env :: X.outer)) (hN : X.N.Nodup) (hi : X.N[i]? = some n) (hln : X.env.kindOf n = some .local) {x : Str} {c : Value} {ts : Addr → Value → Option Addr → TS} {b₀ : Stmt} {suite : List Stmt} {np pos : Pos} {hds : List ExceptHandler} {D : Ends} {b : Bool}
    (hc : Names X x c) (hsu : ∀ (a : Addr) (oe : Obj) (cls : Value) (d : Option Addr) (pn : List (Addr × Obj)), Zc cls d oe → (∃ vs, oe.data = .fields vs) → PSs (X.suite a ((a, oe) :: pn)) (b₀ :: suite) (ts a cls d))
    (hb : PySem.W.exmOne X.K cls c = some b)
    (yes : b = true → ts a cls d { nx := fun σ' H' => D.nx (σ'.set i none) H', rt := D.rt, bk := fun σ' H' => D.bk (σ'.set i none) H', ct := fun σ' H' => D.ct (σ'.set i none) H' } (σ.set i (some (.ref a))) H)
    (no : b = false → wpAny (model X.prog X.w) X.A (handleBy (.ref a) X.env hds) (SP X pins D) X.xe s) :
    wpAny (model X.prog X.w) X.A (handleBy (.ref a) X.env (.ExceptHandler (some (.Name x np)) (some n) (b₀ :: suite) pos :: hds)) (SP X pins D) X.xe s := by
  obtain ⟨oe, vs, he, hz, hd⟩ := C.fly.there
  have mt := PySem.W.exm_one (M := model X.prog X.w) C.inv.kIn (fun A Q E s' k q => wpAny_typeOf_ref (k _ _ he) (by rw [hz.1]; exact q)) hb
  refine wpAny_handleBy_cons (codeAny_handlers_test (C.test he hd hc (mt.here ?_))) nofun
  cases b with
  | false => exact no rfl
  | true =>
    have t := yes rfl
    clear yes no
    refine codeAny_handlers_suite_as (HandSPX.lands_againZ C.fly fun h fl up => ?_)
    obtain ⟨o4, v4, e4, z4, d4⟩ := fl.there
    have S := (C.on h fl up).suite e4 d4 C.na C.nL C.nF
    refine store_ok (X := X.suite a ((a, o4) :: (X.pn ++ pins))) (v := .ref a) S hN hi (.inl hln) rfl (fun s5 S5 => ?_) (.inr hln)
    refine wpAny_mono ((hsu a o4 cls d (X.pn ++ pins) z4 ⟨v4, d4⟩).run [] s5 _ H _ S5 t) (fun f s6 r => ?_) fun _ _ z => z.elim
    have away : ∀ {σ6 : L2.St} {H6 : Hp} {Q : Shared → Prop}, Inv (X.suite a ((a, o4) :: (X.pn ++ pins))) [] σ6 H6 s6 → (∀ s7, Inv X pins (σ6.set i none) H6 s7 → Q s7) → wpAny (model X.prog X.w) X.A (do bindName X.env n .none; unbindBehindTheSuite X.env n pos) (fun _ s7 => Q s7) X.xe s6 :=
      fun J q => gone_ok (J.unsuite C.inv.ok) hN hi hln q
    cases f with
    | ret u =>
      obtain ⟨y, σ6, H6, J, ry, q⟩ := r
      exact away J fun _ K => ⟨y, _, H6, K, ry, q⟩
    | _ =>
      obtain ⟨σ6, H6, J, q⟩ := r
      exact away J fun _ K => ⟨_, H6, K, q⟩
/-- no clause has taken it: it goes on -/
theorem Caught.out (C : Caught X pins σ H a cls d B s) (hf : X.env.frame = some X.env.locals) {D : Ends} (h : ∀ h', HandSPX.HeldZ B (X.env :: X.outer) a (Zc cls d) X.env.locals h' → s.heap.UpToSlots h' → X.xe (.ref a) { s with heap := h' }) : wpAny (model X.prog X.w) X.A (handleBy (.ref a) X.env []) (SP X pins D) X.xe s := by
  obtain ⟨_, _, _, oe, vs, T, oT, ts, he, hz, hd, h1, _⟩ := id C.fly
  refine wpAny_handleBy_nil ?_
  unfold PySem.passOn
  refine wpAny_bind (wpAny_field he hd h1 ?_)
  rw [if_neg (show ¬ ((Value.ref T == Value.none) = true) by simp)]
  have go : wpAny (model X.prog X.w) X.A (setFlight (.ref a) X.env.frame) (fun _ s4 => wpAny (model X.prog X.w) X.A (throw (.ref a) : Sem Flow) (SP X pins D) X.xe s4) X.xe s := by
    rw [hf]
    exact HandSPX.setFlight_upZ C.fly fun h' hh up => wpAny_throw (h h' hh up)
  first
    | exact wpAny_bind (wpAny_pure (wpAny_bind go))
    | exact wpAny_bind go
end
section
variable {X : Cx} {n : Str} {i : Nat} {body : List Stmt} {h₀ : ExceptHandler} {hds : List ExceptHandler} {l : List (Value × (Addr → Value → Option Addr → TS))} {pos : Pos} {tb : WX → TS} {Wout : WX}
theorem HdsAs.run {X : Cx} {n : Str} {i : Nat} {pins : List (Addr × Obj)} {σ : L2.St} {H : Hp} {s : Shared} {a : Addr} {cls : Value} {d : Option Addr} {B : Heap} {D : Ends} {Wout : WX} (C : Caught X pins σ H a cls d B s) (hfr : X.A.frames = some (X.env :: X.outer)) (hN : X.N.Nodup) (hi : X.N[i]? = some n) (hln : X.env.kindOf n = some .local)
    (out : Wout cls d σ H → wpAny (model X.prog X.w) X.A (handleBy (.ref a) X.env []) (SP X pins D) X.xe s) {hds : List ExceptHandler} {l : List (Value × (Addr → Value → Option Addr → TS))} (hh : HdsAs X n hds l) :
    wManyAs X.K i Wout D l cls d σ H → wpAny (model X.prog X.w) X.A (handleBy (.ref a) X.env hds) (SP X pins D) X.xe s := by
  induction hh with
  | nil => exact out
  | cons hc hsu _ ih => exact fun ⟨b, hb, yes, no⟩ => C.clause hfr hN hi hln hc hsu hb (fun e => yes e a C.na) fun e => ih (no e)
theorem ps_try_manyAs (hs : X.stack = X.env :: X.outer) (hf : X.env.frame = some X.env.locals) (hN : X.N.Nodup) (hi : X.N[i]? = some n) (hln : X.env.kindOf n = some .local) (tk : Takes X Wout)
    (hb : ∀ (W : WX) (pn : List (Addr × Obj)) (xe : Value → Shared → Prop), Takes (X.tr pn xe) W → PassesOwn (model X.prog X.w) X.A X.env xe → PSs (X.tr pn xe) body (tb W))
    (hh : HdsAs X n (h₀ :: hds) l) : PS X (.Try body (h₀ :: hds) [] [] pos) (fun D σ H => tb (wManyAs X.K i Wout D l) D σ H) := by
  refine ⟨fun pins s σ H D I h => wpAny_Try_except ?_⟩
  have ok := I.ok
  have hfr : X.A.frames = some (X.env :: X.outer) := by rw [ok.frames, hs]
  have caught : Takes (X.tr (X.pn ++ pins) (fun e s₁ => wpAny (model X.prog X.w) X.A (noteFrame e X.env) (fun _ s₂ => wpAny (model X.prog X.w) X.A (setFlight e none) (fun _ s₃ => wpAny (model X.prog X.w) X.A (handleBy e X.env (h₀ :: hds)) (SP X pins D) X.xe s₃) X.xe s₂) X.xe s₁)) (wManyAs X.K i Wout D l) := by
    rintro _ s1 ⟨a, B, sI, p1, σ1, H1, cls, d, rfl, J0, nb, up, sky, na, os, ag, w⟩
    have J := J0.ofTry ok
    rw [show X.stack = _ from hs] at sky
    refine Sky.land Zc.steady hfr hf sky fun h2 fl up2 => ?_
    obtain ⟨oe, vs, he, _, hd⟩ := fl.there
    have nfr : a ∉ frs (X.env :: X.outer) := fun m => by
      obtain ⟨_, o, e, nf⟩ := fl.2.2.1.mem m
      rw [he] at e
      cases e
      exact nf _ hd
    have C : Caught X pins σ1 H1 a cls d B { s1 with heap := h2 } := ⟨J.landed nb fl.1 (up.trans up2) os ag, fl, na,
      fun e => nfr (List.mem_filterMap.mpr ⟨X.env, List.mem_cons_self, by rw [hf, e]⟩),
      fun m => by
        obtain ⟨v, hv, q⟩ := List.mem_filterMap.mp m
        exact nfr (List.mem_filterMap.mpr ⟨v, List.mem_cons_of_mem _ hv, q⟩),
      fun h3 fl3 up3 => J.landed nb fl3.1 ((up.trans up2).trans up3) os ag⟩
    exact hh.run C hfr hN hi hln (fun wo => C.out hf fun h3 hd3 up3 => tk _ _ ⟨a, B, sI, pins, σ1, H1, cls, d, rfl, J, nb, (up.trans up2).trans up3, .inr (.inr (by rw [hs]; exact hd3)), na, os, ag, wo⟩) w
  refine wpAny_mono ((hb _ _ _ caught PassesOwn.looking).run [] s σ H D (I.toTry _) h) (fun f s1 r => ?_) fun _ _ z => z
  cases f with
  | next =>
    obtain ⟨σ1, H1, J, q⟩ := r
    exact wpAny_execs_nil ⟨σ1, H1, J.ofTry ok, q⟩
  | ret u =>
    obtain ⟨y, σ1, H1, J, ry, q⟩ := r
    exact ⟨y, σ1, H1, J.ofTry ok, ry, q⟩
  | _ =>
    obtain ⟨σ1, H1, J, q⟩ := r
    exact ⟨σ1, H1, J.ofTry ok, q⟩
end
end Fx
/-! staticmethods among the head's facts -/
namespace FxH
open PySem PySem.Spec PyProof.Rows L2 He
structure StD where
  x : Str
  m : Str
  qual : Str
  st : Stmt
/-- the def within the record -/
def stA (K : PySem.W.Frag) (x m : Str) : Addr := match PySem.W.recIn K (ma K (ga K x) m) "staticmethod" with
  | some (.ref f :: _) => f
  | _ => 0
def fnS (K : PySem.W.Frag) (d : StD) : FnW := match K.lookup (stA K d.x d.m) with
  | some ⟨_, _, .func fd, _⟩ => some (fd.name, fd.qualname, fd.params, fd.body, fd.scope, fd.globals, fd.closure, fd.builtins)
  | _ => none
def StD.val (d : StD) : FnW := some (d.m, d.qual, defArgs d.st, .stmts (defBody d.st), defScope d.st, mainGlobals, [], builtinsNs)
def StD.ok (K : PySem.W.Frag) (d : StD) : Bool := PySem.W.keepIn K (.ref (stA K d.x d.m)) && ((match K.lookup (stA K d.x d.m) with
  | some ⟨_, _, .func fd, _⟩ => PySem.W.codeIn K fd.code d.qual && (dflB K fd.defaults [] && kwdB K fd.kwdefaults [])
  | _ => false) && ((match PySem.W.findCls K (.ref (ga K d.x)) (.type "type") d.m with
    | some (.get (.builtin g) (.ref p) .none (.ref D)) => decide (g = "staticmethod.__get__") && (decide (p = ma K (ga K d.x) d.m) && decide (D = ga K d.x))
    | _ => false) && ((match PySem.W.recIn K (ma K (ga K d.x) d.m) "staticmethod" with
    | some (.ref _ :: _) => true
    | _ => false) && (PySem.W.readsIn K (ga K d.x) (.type "type") && eqO (PySem.W.specialIn K (.ref (ga K d.x)) "__getattribute__") (some (some (.builtin "type.__getattribute__")))))))
theorem StD.funD {K : PySem.W.Frag} {d : StD} (e : fnS K d = d.val) (c : d.ok K = true) : ∃ fd, FunD K d.m d.qual (defArgs d.st) (defBody d.st) (defScope d.st) [] [] (stA K d.x d.m) fd := by
  obtain ⟨kp, c⟩ := ba c
  obtain ⟨c2, _⟩ := ba c
  unfold fnS at e
  cases q : K.lookup (stA K d.x d.m) with
  | none =>
    rw [q] at c2
    cases c2
  | some o =>
    obtain ⟨oc, od, dt, osl⟩ := o
    rw [q] at c2 e
    cases dt with
    | func fd =>
      obtain ⟨n1, n2, n3, n4, n5, n6, n7, n8, n9, n10, n11, n12, n13, n14, n15⟩ := fd
      have e2 : (some (n1, n2, n3, n4, n5, n6, n7, n15) : FnW) = some (d.m, d.qual, defArgs d.st, .stmts (defBody d.st), defScope d.st, mainGlobals, [], builtinsNs) := e
      simp only [Option.some.injEq, Prod.mk.injEq] at e2
      obtain ⟨h1, h2, h3, h4, h5, h6, h7, h8⟩ := e2
      have c3 : (PySem.W.codeIn K n13 d.qual && (dflB K n8 [] && kwdB K n9 [])) = true := c2
      obtain ⟨k1, k2⟩ := ba c3
      obtain ⟨k3, k4⟩ := ba k2
      refine ⟨_, ⟨oc, od, n8, n9, n10, n11, n12, n13, n14, osl, ?_, q, k1, dflB_ok k3, kwdB_ok k4⟩, kp⟩
      rw [h1, h2, h3, h4, h5, h6, h7, h8]
    | _ => cases c2
theorem StD.sta {K : PySem.W.Frag} {d : StD} (c : d.ok K = true) : Fx.CSta K (ga K d.x) (.type "type") d.m (ma K (ga K d.x) d.m) (stA K d.x d.m) ∧ ClX.CRead K (ga K d.x) (.type "type") := by
  obtain ⟨kp, c⟩ := ba c
  obtain ⟨_, c⟩ := ba c
  obtain ⟨c3, c⟩ := ba c
  obtain ⟨c4, c⟩ := ba c
  obtain ⟨c5, c6⟩ := ba c
  refine ⟨⟨?_, ?_, kp⟩, ⟨c5, eqO_ok c6⟩⟩
  · split at c3
    · rename_i g p D e
      obtain ⟨k1, k⟩ := ba c3
      obtain ⟨k2, k3⟩ := ba k
      rw [e, of_decide_eq_true k1, of_decide_eq_true k2, of_decide_eq_true k3]
    · cases c3
  · split at c4
    · rename_i f r e
      have es : stA K d.x d.m = f := by unfold stA; rw [e]
      exact ⟨r, by rw [es, e]⟩
    · cases c4
/-! ### the Hook -/
abbrev AlS : Type := AlX × (Bool × List FnW)
def obsS (file : Str) (fa : List Fct) (fn : List DefD) (fi : List InD) (fs : List StD) (K : PySem.W.Frag) : AlS := (obsX file fa fn fi K, (fs.all fun d => d.ok K), fs.map (fun d => fnS K d))
def valS (fn : List DefD) (fi : List InD) (fs : List StD) : AlS := (valX fn fi, true, fs.map StD.val)
def SaysS (file : Str) (fa : List Fct) (fn : List DefD) (fi : List InD) (fs : List StD) (K : PySem.W.Frag) : Prop := obsS file fa fn fi fs K = valS fn fi fs
def obsSG (n : Nat) (file : Str) (fa : List Fct) (fn : List DefD) (fi : List InD) (fs : List StD) (g : Addr → Option Obj) : AlS := obsS file fa fn fi fs (frG g (asR g n))
def hookS (n : Nat) (file : Str) (fa : List Fct) (fn : List DefD) (fi : List InD) (fs : List StD) : PySem.W.Hook where
  α := AlS
  obs := fun s => obsSG n file fa fn fi fs s.heap.get?
  val := fun _ => valS fn fi fs
  says := fun _ h => ∃ K : PySem.W.Frag, K.In h ∧ SaysS file fa fn fi fs K
  of := fun _ _ e => ⟨_, frG_in, e⟩
  keeps := fun _ _ _ ⟨K, hK, c⟩ k => ⟨K, PySem.W.Frag.In.keeps hK k, c⟩
theorem obsSG_eq {n : Nat} {file : Str} {fa : List Fct} {fn : List DefD} {fi : List InD} {fs : List StD} {g : Addr → Option Obj} {s : Shared} (h : ∀ a, g a = s.heap.get? a) : obsSG n file fa fn fi fs g = (hookS n file fa fn fi fs).obs s := by
  have e : g = s.heap.get? := funext h
  rw [e] <;> rfl
section
variable {file : Str} {fa : List Fct} {fn : List DefD} {fi : List InD} {fs : List StD} {K : PySem.W.Frag}
theorem SaysS.x (c : SaysS file fa fn fi fs K) : SaysX file fa fn fi K := congrArg (fun z : AlS => z.1) c
theorem SaysS.st (c : SaysS file fa fn fi fs K) (i : Nat) {d : StD} (h : fs[i]? = some d := by rfl) : fnS K d = d.val ∧ d.ok K = true := by
  have c2 : (fs.all fun d => d.ok K) = true := congrArg (fun z : AlS => z.2.1) c
  have e : fs.map (fun d => fnS K d) = fs.map StD.val := congrArg (fun z : AlS => z.2.2) c
  have e2 : (fs.map fun d => fnS K d)[i]? = (fs.map StD.val)[i]? := by rw [e]
  rw [List.getElem?_map, List.getElem?_map, h] at e2
  exact ⟨Option.some.inj e2, List.all_eq_true.mp c2 d (List.mem_of_getElem? h)⟩
end
end FxH
namespace Fx
open PySem PySem.Spec PyProof.Rows L2
/-- a staticmethod that keeps its promise -/
structure CalS (P : Program) (w : World) (K : PySem.W.Frag) (mg : Str → Option Value) (base : Heap) (CX : CXT) (k : Nat) (C : Addr) (m : Str) (ps : List Str) (sp : Sp) : Prop where
  ex : ∃ p f fd, CSta K C (.type "type") m p f ∧ ClX.CRead K C (.type "type") ∧ Binds K fd ps [] ∧ FnOk P w K mg base CX k f fd ps sp
end Fx
/-! sorted of a tuple of ints (or of a list) -/
namespace Fx
open PySem PySem.Spec PyProof.Rows L2
section
variable {prog : Program} {w : World} {A : Around} {s : Shared} {E : Value → Shared → Prop}
theorem collect_tuple {l : Addr} {vs : List Value} {Q : List Value → Shared → Prop} (hl : s.heap.IsTuple l vs.toArray)
    (h : Q vs { s with heap := (s.heap.push (seqObj "list" #[] 0)).update s.heap.objs.size (Obj.mapSeq (· ++ vs.toArray)) }) (hsz : vs.length ≤ sizeLine) :
    wpAny (model prog w) A (collect (.ref l)) Q E s := by
  obtain ⟨o, ho, hc, n, hd⟩ := id hl
  unfold collect
  refine wpAny_bind (wpAny_runValue (codeAny_builtin F.entry_proto_collect ?_))
  show wpAny _ _ (do again (.builtin "list.__iadd__" ⟨[← newList [], .ref l], []⟩)) _ _ s
  refine wpAny_bind (wpAny_newList (wpAny_pure ⟨Code.quiet_builtin _ (by decide +kernel), codeAny_builtin F.entry_list_iadd ?_⟩))
  show wpAny _ _ (Builtin.List.listExtendWith (.ref s.heap.objs.size) (.ref l) (.ref s.heap.objs.size)) _ _ { s with heap := s.heap.push (seqObj "list" #[] 0) }
  unfold Builtin.List.listExtendWith
  have ho' : (s.heap.push (seqObj "list" #[] 0)).get? l = some o := Heap.get?_push_of_some _ ho
  refine wpAny_bind (wpAny_typeOf (T := "tuple") ⟨o, ho', hc⟩ ?_)
  have ht : (Value.type "tuple" == Value.type "tuple") = true := by rfl
  rw [if_pos (by rw [ht]; simp)]
  refine wpAny_bind (listItems_at ho' hd ?_)
  refine wpAny_bind (listItems_at (xs := #[]) (n := 0) (Heap.get?_push_size _ rfl) rfl ?_)
  rw [if_neg (by simp)]
  refine wpAny_bind (listUpdate_at (xs := #[]) (n := 0) (Heap.get?_push_size _ rfl) rfl ?_ (Nat.zero_le _) (by show (#[] ++ vs.toArray).size ≤ sizeLine + 1; simp only [Array.size_append, List.size_toArray, List.length_nil]; omega))
  refine wpAny_pure ?_
  show wpAny (model prog w) A (do
      let o ← load s.heap.objs.size
      match o.data with
      | .seq xs _ => pure xs.toList
      | _ => unsupported "internal:collect") Q E { s with heap := (s.heap.push (seqObj "list" #[] 0)).update s.heap.objs.size (Obj.mapSeq (· ++ vs.toArray)) }
  refine wpAny_bind (wpAny_load (get?_update_seq (Heap.get?_push_size _ rfl) _) ?_)
  show wpAny _ _ (pure ((#[] : Array Value) ++ vs.toArray).toList) Q E _
  rw [show ((#[] : Array Value) ++ vs.toArray).toList = vs by simp]
  exact wpAny_pure h
open SrtO in
theorem sorted_ordT {l : Addr} {vs : List Value} {ltv : Value → Value → Bool} {Q : Value → Shared → Prop} (O : Swo ltv) (hl : s.heap.IsTuple l vs.toArray) (hz : vs.length ≤ sizeLine)
    (hS : 2 ≤ vs.length → ∀ (h₁ : Heap) (a : Addr), h₁.get? a = some (seqObj "list" vs.toArray 0) → (∀ b o, s.heap.get? b = some o → b ≠ a ∧ h₁.get? b = some o) → SortableO prog w A.in1.in1 { s with heap := h₁ } a vs ltv)
    (h : ∀ out : List Value, Srtd ltv out → Stb ltv out vs → Q (.ref (s.heap.objs.size + 1)) { s with heap := sortedAll s.heap vs out.toArray }) :
    wpAny (model prog w) A (call (.builtin "sorted") [.ref l]) Q E s := by
  refine Calls.call_function_entry kind_sorted plain_sorted entry_sorted (args_sorted1 _) ?_
  unfold Builtin.«sorted»
  refine wpAny_bind (m := checkCount "sorted" 1 1 _) (wpAny_pure ?_)
  refine wpAny_bind (collect_tuple hl ?_ hz)
  refine wpAny_bind (wpAny_newList ?_ hz)
  have hsz : ((s.heap.push (seqObj "list" #[] 0)).update s.heap.objs.size (Obj.mapSeq (· ++ vs.toArray))).objs.size = s.heap.objs.size + 1 := by
    rw [Heap.size_update, size_push']
  have hoL : (((s.heap.push (seqObj "list" #[] 0)).update s.heap.objs.size (Obj.mapSeq (· ++ vs.toArray))).push (seqObj "list" vs.toArray 0)).get? (s.heap.objs.size + 1) = some (seqObj "list" vs.toArray 0) := by
    rw [← hsz]; exact Heap.get?_push_size _ rfl
  have keep : ∀ b o, s.heap.get? b = some o → b ≠ s.heap.objs.size + 1 ∧ (((s.heap.push (seqObj "list" #[] 0)).update s.heap.objs.size (Obj.mapSeq (· ++ vs.toArray))).push (seqObj "list" vs.toArray 0)).get? b = some o := fun b o q => by
    have hlt : b < s.heap.objs.size := Heap.lt_size q
    refine ⟨Nat.ne_of_lt (Nat.lt_succ_of_lt hlt), Heap.get?_push_of_some _ ?_⟩
    rw [Heap.get?_update_ne _ _ _ _ (Nat.ne_of_lt hlt)]
    exact Heap.get?_push_of_some _ q
  show wpAny _ _ _ _ _ { s with heap := ((s.heap.push (seqObj "list" #[] 0)).update s.heap.objs.size (Obj.mapSeq (· ++ vs.toArray))).push (seqObj "list" vs.toArray 0) }
  rw [hsz]
  refine wpAny_bind (wpAny_holding (wpAny_call_entry slot_list_sort ⟨_, hoL, rfl⟩ entry_list_sort (list_sort_ord O hoL hz (fun h2 => hS h2 _ _ hoL keep) fun out hs hb => ⟨_, rfl, ?_⟩) (args_list_sort _)))
  exact wpAny_pure ⟨_, rfl, h out hs hb⟩
end
/-- sorted(xs) of ints, xs a list or a tuple -/
def rSrtQ : List V → Hp → VK → Prop := fun vs H Q => ∃ (a : Addr) (ns : List Int), vs = [V.ref a] ∧ Sq H a (ns.map V.int) ∧
  ∀ (ns' : List Int) (p : Addr), ns'.Perm ns → ns'.Pairwise (· ≤ ·) → H p = none → Q (.ref p) (upd H p (.lst (ns'.map V.int)))
theorem srt_Q {X : Cx} : CallR X (.builtin "sorted") rSrtQ := by
  intro pins s σ H vs us Q I r h
  obtain ⟨a, ns, rfl, hs, q⟩ := h
  rcases hs with hs | hs
  · exact cr_sortedI pins s σ H _ us Q I r ⟨a, ns, rfl, .inl (.inl hs), q⟩
  obtain ⟨its, rv, hl, hz⟩ := I.tuple (xs := ns.map V.int) (.inl (.inl hs))
  rw [Vals.ref1 r]
  have hi := rv.ints
  refine sorted_ordT SrtO.swo_int hl (by rw [← rv.length]; exact hz) (fun h2 h₁ a' _ _ => SrtO.ints_sortable hi h2) fun out h1 h2 => ?_
  obtain ⟨k1, k2, k3⟩ := SrtO.ints_out hi h1 h2
  obtain ⟨ep, he'⟩ := PyProof.Rows.sortedAll_at s.heap its out.toArray
  have hlen : ((out.map SrtO.iv).map V.int).length ≤ sizeLine := by
    rw [List.length_map, k2.length_eq]
    rw [List.length_map] at hz
    exact hz
  exact ⟨.ref _, upd H (s.heap.objs.size + 1) (.lst ((out.map SrtO.iv).map V.int)), I.laid (t' := s.toks) (fun _ _ => PyProof.Rows.sortedAll_old) (Nat.le_succ _) ⟨hlen, out, ep, vals_of_ints k1, he'⟩, rfl, q _ _ k2 k3 (I.hok.fresh (Nat.le_succ _))⟩
end Fx
/-! a staticmethod called within a try -/
namespace Fx
open PySem PySem.Spec PyProof.Rows L2
section
variable {X : Cx} {k : Nat} {C p g : Addr} {mc : Value} {m : Str} {fd : FuncData} {ps : List Str} {sp : Sp} {W : WX} {o e : Expr} {es : List Expr} {ta : TE} {t : TA} {pos apos : Pos}
def tSMethT (C : Addr) (sp : Sp) (E : L2.St → XK) (ta : TE) (t : TA) : TE := fun σ H Q => ta σ H fun x H1 => x = .ref C ∧ t σ H1 fun vs H2 => sp vs H2 Q (E σ)
theorem pe_smethT {pl : Sem Bool} (he : PE X o ta) (r : ClX.CRead X.K C mc) (c : CSta X.K C mc m p g) (F : FnOk X.prog X.w X.K X.mg X.base (L2.CX X.prog X.w) k g fd ps sp) (hr : Room k X.A) (hb : Binds X.K fd ps []) (tk : Takes X W) (ha : PA X (e :: es) t)
    (hst : starEach (e :: es) X.env = (false, eval e X.env) :: starEach es X.env := by rfl) (hpl : (backTo pos (starEach es X.env)).any (·.1) = false := by rfl)
    (ht : eval (.Call (.Attribute o m apos) (e :: es) [] pos) X.env = (do
      let ov ← eval o X.env
      standAt apos.atName
      let (f, first) ← holding [ov] (getMethod ov m pl)
      callWith pos f first (backTo pos (starEach (e :: es) X.env)) (backToKw pos (keywordEach [] X.env))) := by rfl) :
    PE X (.Call (.Attribute o m apos) (e :: es) [] pos) (tSMethT C sp (WE W) ta t) := by
  refine ⟨fun pins s σ H Q I h => ?_⟩
  refine PySem.W.methodCall_KW (pl := pl) (thn (he.run pins s σ H _ I h) fun u s1 ⟨x, H1, I1, rx, ex, q⟩ => ?_) ht
  subst ex
  obtain rfl : u = Value.ref C := rx
  obtain ⟨rest, hp⟩ := c.rc
  refine PySem.W.method_cls I1.kIn r.ga ?_
  refine PySem.W.cls_bind I1.kIn r.rd c.at_ ?_
  refine wpAny_call (PySem.W.sm_get (s := { s1 with toks := s1.toks + 1 }) I1.kIn hp (PySem.W.handed_on rfl ?_))
  refine PySem.W.callWith_K (first := []) (h₀ := X.base) I1.ok.mod.kin c.kp (thn (ha.run pos pins _ σ H1 _ (I1.tok _) q) fun us s2 ⟨vs, H2, I2, rv, q2⟩ => ⟨I2.kIn, ?_⟩) hst hpl
  exact run_fnS (us := us) (vs := vs) (E := WE W) F hr hb (passAt tk σ) I2 rv q2
end
theorem in_seqK {X : Cx} {K : PySem.W.Frag} (hK : X.K = K) : OpR X (compareOp .In) (rIn K false) := by subst hK; exact op_in_seq
end Fx
/-! staticmethods, classmethods and properties among the head's facts -/
namespace FxH
open PySem PySem.Spec PyProof.Rows L2 He
/-- kind 0: staticmethod, 1: classmethod, 2: property -/
structure StE where
  kind : Nat
  x : Str
  m : Str
  qual : Str
  st : Stmt
def StE.kn (d : StE) : String := if d.kind = 0 then "staticmethod" else if d.kind = 1 then "classmethod" else "property"
/-- the def within the record -/
def stE (K : PySem.W.Frag) (d : StE) : Addr := match PySem.W.recIn K (ma K (ga K d.x) d.m) d.kn with
  | some (.ref f :: _) => f
  | _ => 0
def fnE (K : PySem.W.Frag) (d : StE) : FnW := match K.lookup (stE K d) with
  | some ⟨_, _, .func fd, _⟩ => some (fd.name, fd.qualname, fd.params, fd.body, fd.scope, fd.globals, fd.closure, fd.builtins)
  | _ => none
def StE.val (d : StE) : FnW := some (d.m, d.qual, defArgs d.st, .stmts (defBody d.st), defScope d.st, mainGlobals, [], builtinsNs)
def StE.rcB (K : PySem.W.Frag) (d : StE) : Bool := match PySem.W.recIn K (ma K (ga K d.x) d.m) d.kn with
    | some (.ref _ :: _) => true
    | _ => false
def StE.fdB (K : PySem.W.Frag) (d : StE) : Bool := match K.lookup (stE K d) with
  | some ⟨_, _, .func fd, _⟩ => PySem.W.codeIn K fd.code d.qual && (dflB K fd.defaults [] && kwdB K fd.kwdefaults [])
  | _ => false
def StE.clB (K : PySem.W.Frag) (d : StE) (bn : String) : Bool := match PySem.W.findCls K (.ref (ga K d.x)) (.type "type") d.m with
    | some (.get (.builtin g) (.ref p) .none (.ref D)) => decide (g = bn) && (decide (p = ma K (ga K d.x) d.m) && decide (D = ga K d.x))
    | _ => false
def StE.rdB (K : PySem.W.Frag) (d : StE) : Bool := PySem.W.readsIn K (ga K d.x) (.type "type") && eqO (PySem.W.specialIn K (.ref (ga K d.x)) "__getattribute__") (some (some (.builtin "type.__getattribute__")))
def StE.prB (K : PySem.W.Frag) (d : StE) : Bool := decide (PySem.W.findIn K (.ref (ga K d.x)) d.m = some (some (.ref (ma K (ga K d.x) d.m)))) && (eqO (PySem.W.specialIn K (.ref (ma K (ga K d.x) d.m)) "__get__") (some (some (.builtin "property.__get__"))) && decide (PySem.W.takesIn K (.ref (ma K (ga K d.x) d.m)) = some true))
def StE.ok (K : PySem.W.Frag) (d : StE) : Bool := d.fdB K && (d.rcB K && (PySem.W.keepIn K (.ref (stE K d)) &&
  (if d.kind = 0 then d.clB K "staticmethod.__get__" && d.rdB K else if d.kind = 1 then d.clB K "classmethod.__get__" && (d.rdB K && PySem.W.fnIn K (stE K d)) else d.prB K)))
theorem StE.funD {K : PySem.W.Frag} {d : StE} (e : fnE K d = d.val) (c : d.ok K = true) : ∃ fd, FunD K d.m d.qual (defArgs d.st) (defBody d.st) (defScope d.st) [] [] (stE K d) fd := by
  obtain ⟨c2, c⟩ := ba c
  obtain ⟨_, c⟩ := ba c
  obtain ⟨kp, _⟩ := ba c
  unfold fnE at e
  unfold StE.fdB at c2
  cases q : K.lookup (stE K d) with
  | none =>
    rw [q] at c2
    cases c2
  | some o =>
    obtain ⟨oc, od, dt, osl⟩ := o
    rw [q] at c2 e
    cases dt with
    | func fd =>
      obtain ⟨n1, n2, n3, n4, n5, n6, n7, n8, n9, n10, n11, n12, n13, n14, n15⟩ := fd
      have e2 : (some (n1, n2, n3, n4, n5, n6, n7, n15) : FnW) = some (d.m, d.qual, defArgs d.st, .stmts (defBody d.st), defScope d.st, mainGlobals, [], builtinsNs) := e
      simp only [Option.some.injEq, Prod.mk.injEq] at e2
      obtain ⟨h1, h2, h3, h4, h5, h6, h7, h8⟩ := e2
      have c3 : (PySem.W.codeIn K n13 d.qual && (dflB K n8 [] && kwdB K n9 [])) = true := c2
      obtain ⟨k1, k2⟩ := ba c3
      obtain ⟨k3, k4⟩ := ba k2
      refine ⟨_, ⟨oc, od, n8, n9, n10, n11, n12, n13, n14, osl, ?_, q, k1, dflB_ok k3, kwdB_ok k4⟩, kp⟩
      rw [h1, h2, h3, h4, h5, h6, h7, h8]
    | _ => cases c2
theorem clB_ok {K : PySem.W.Frag} {d : StE} {bn : String} (c3 : d.clB K bn = true) : PySem.W.findCls K (.ref (ga K d.x)) (.type "type") d.m = some (.get (.builtin bn) (.ref (ma K (ga K d.x) d.m)) .none (.ref (ga K d.x))) := by
  unfold StE.clB at c3
  split at c3
  · rename_i g p D e
    obtain ⟨k1, k⟩ := ba c3
    obtain ⟨k2, k3⟩ := ba k
    rw [e, of_decide_eq_true k1, of_decide_eq_true k2, of_decide_eq_true k3]
  · cases c3
theorem rcB_ok {K : PySem.W.Frag} {d : StE} (c4 : d.rcB K = true) : ∃ rest, PySem.W.recIn K (ma K (ga K d.x) d.m) d.kn = some (.ref (stE K d) :: rest) := by
  unfold StE.rcB at c4
  split at c4
  · rename_i f r e
    have es : stE K d = f := by unfold stE; rw [e]
    exact ⟨r, by rw [es, e]⟩
  · cases c4
theorem StE.sta {K : PySem.W.Frag} {d : StE} (c : d.ok K = true) (hk : d.kind = 0) : Fx.CSta K (ga K d.x) (.type "type") d.m (ma K (ga K d.x) d.m) (stE K d) ∧ ClX.CRead K (ga K d.x) (.type "type") := by
  obtain ⟨_, c⟩ := ba c
  obtain ⟨c4, c⟩ := ba c
  obtain ⟨kp, c⟩ := ba c
  rw [if_pos hk] at c
  obtain ⟨c3, c⟩ := ba c
  obtain ⟨c5, c6⟩ := ba c
  have r := rcB_ok c4
  rw [show d.kn = "staticmethod" by unfold StE.kn; rw [if_pos hk]] at r
  exact ⟨⟨clB_ok c3, r, kp⟩, ⟨c5, eqO_ok c6⟩⟩
theorem StE.cmet {K : PySem.W.Frag} {d : StE} (c : d.ok K = true) (hk : d.kind = 1) : ClX.CMet K (ga K d.x) (.type "type") d.m (ma K (ga K d.x) d.m) (stE K d) ∧ ClX.CRead K (ga K d.x) (.type "type") := by
  obtain ⟨_, c⟩ := ba c
  obtain ⟨c4, c⟩ := ba c
  obtain ⟨kp, c⟩ := ba c
  rw [if_neg (by omega), if_pos hk] at c
  obtain ⟨c3, c⟩ := ba c
  obtain ⟨c, c7⟩ := ba c
  obtain ⟨c5, c6⟩ := ba c
  have r := rcB_ok c4
  rw [show d.kn = "classmethod" by unfold StE.kn; rw [if_neg (by omega), if_pos hk]] at r
  exact ⟨⟨clB_ok c3, r, c7⟩, ⟨c5, eqO_ok c6⟩⟩
theorem StE.prop {K : PySem.W.Frag} {d : StE} (c : d.ok K = true) (hk : d.kind = 2) : L2.PropOf K (ga K d.x) d.m (ma K (ga K d.x) d.m) (stE K d) := by
  obtain ⟨_, c⟩ := ba c
  obtain ⟨c4, c⟩ := ba c
  obtain ⟨kp, c⟩ := ba c
  rw [if_neg (by omega), if_neg (by omega)] at c
  obtain ⟨c3, c⟩ := ba c
  obtain ⟨c5, c6⟩ := ba c
  have r := rcB_ok c4
  rw [show d.kn = "property" by unfold StE.kn; rw [if_neg (by omega), if_neg (by omega)]] at r
  exact ⟨of_decide_eq_true c3, eqO_ok c5, of_decide_eq_true c6, r⟩
/-! ### the Hook -/
abbrev AlE : Type := AlX × (Bool × List FnW)
def obsE (file : Str) (fa : List Fct) (fn : List DefD) (fi : List InD) (fs : List StE) (K : PySem.W.Frag) : AlE := (obsX file fa fn fi K, (fs.all fun d => d.ok K), fs.map (fun d => fnE K d))
def valE (fn : List DefD) (fi : List InD) (fs : List StE) : AlE := (valX fn fi, true, fs.map StE.val)
def SaysE (file : Str) (fa : List Fct) (fn : List DefD) (fi : List InD) (fs : List StE) (K : PySem.W.Frag) : Prop := obsE file fa fn fi fs K = valE fn fi fs
def obsEG (n : Nat) (file : Str) (fa : List Fct) (fn : List DefD) (fi : List InD) (fs : List StE) (g : Addr → Option Obj) : AlE := obsE file fa fn fi fs (frG g (asR g n))
def hookE (n : Nat) (file : Str) (fa : List Fct) (fn : List DefD) (fi : List InD) (fs : List StE) : PySem.W.Hook where
  α := AlE
  obs := fun s => obsEG n file fa fn fi fs s.heap.get?
  val := fun _ => valE fn fi fs
  says := fun _ h => ∃ K : PySem.W.Frag, K.In h ∧ SaysE file fa fn fi fs K
  of := fun _ _ e => ⟨_, frG_in, e⟩
  keeps := fun _ _ _ ⟨K, hK, c⟩ k => ⟨K, PySem.W.Frag.In.keeps hK k, c⟩
theorem obsEG_eq {n : Nat} {file : Str} {fa : List Fct} {fn : List DefD} {fi : List InD} {fs : List StE} {g : Addr → Option Obj} {s : Shared} (h : ∀ a, g a = s.heap.get? a) : obsEG n file fa fn fi fs g = (hookE n file fa fn fi fs).obs s := by
  have e : g = s.heap.get? := funext h
  rw [e] <;> rfl
section
variable {file : Str} {fa : List Fct} {fn : List DefD} {fi : List InD} {fs : List StE} {K : PySem.W.Frag}
theorem SaysE.x (c : SaysE file fa fn fi fs K) : SaysX file fa fn fi K := congrArg (fun z : AlE => z.1) c
theorem SaysE.st (c : SaysE file fa fn fi fs K) (i : Nat) {d : StE} (h : fs[i]? = some d := by rfl) : fnE K d = d.val ∧ d.ok K = true := by
  have c2 : (fs.all fun d => d.ok K) = true := congrArg (fun z : AlE => z.2.1) c
  have e : fs.map (fun d => fnE K d) = fs.map StE.val := congrArg (fun z : AlE => z.2.2) c
  have e2 : (fs.map fun d => fnE K d)[i]? = (fs.map StE.val)[i]? := by rw [e]
  rw [List.getElem?_map, List.getElem?_map, h] at e2
  exact ⟨Option.some.inj e2, List.all_eq_true.mp c2 d (List.mem_of_getElem? h)⟩
end
end FxH
namespace Fx
open PySem PySem.Spec PyProof.Rows L2
/-- a classmethod that keeps its promise -/
structure CalC (P : Program) (w : World) (K : PySem.W.Frag) (mg : Str → Option Value) (base : Heap) (CX : CXT) (k : Nat) (C : Addr) (m : Str) (ps : List Str) (sp : Sp) : Prop where
  ex : ∃ p f fd, ClX.CMet K C (.type "type") m p f ∧ ClX.CRead K C (.type "type") ∧ Binds K fd ps [] ∧ FnOk P w K mg base CX k f fd ps sp
/-- a property that keeps its promise -/
structure CalP (P : Program) (w : World) (K : PySem.W.Frag) (mg : Str → Option Value) (base : Heap) (CX : CXT) (k : Nat) (C : Addr) (m : Str) (ps : List Str) (sp : Sp) : Prop where
  ex : ∃ p f fd, L2.PropOf K C m p f ∧ Binds K fd ps [] ∧ FnOk P w K mg base CX k f fd ps sp
theorem rawN {P : Program} {w : World} {K : PySem.W.Frag} {mg : Str → Option Value} {base : Heap} {CX : CXT} {k : Nat} {f : Addr} {fd : FuncData} {ps : List Str} {sp : Sp} (F : FnOk P w K mg base CX k f fd ps sp) (hb : Binds K fd ps []) : FnR P w K mg base CX k f sp :=
  (F.raw hb .nil).imp fun vs H Q E h => by rw [List.append_nil]; exact h
section
variable {X : Cx} {CX : CXT} {k : Nat} {C p g : Addr} {m : Str} {fd : FuncData} {ps : List Str} {sp : Sp} {E : XK} {W : WX} {o e : Expr} {es : List Expr} {ta : TE} {t : TA} {pos apos : Pos}
/-- e.m, a property -/
theorem pe_pr (he : PE X o ta) (c : Cls X.K C) (M : CalP X.prog X.w X.K X.mg X.base CX k C m ps sp) (hr : Room (k + 1) X.A) (hx : Passes CX X.nox E) (hab : attributeBase o m X.env (eval o X.env) = eval o X.env := by rfl) : PE X (.Attribute o m pos) (tProp C sp [] E ta) := by
  obtain ⟨p, f, fd, hp, hb, F⟩ := M.ex
  exact pe_prop he c hp F hr hb .nil hx hab
/-- C.m(..), m a classmethod -/
theorem pe_cm {pl : Sem Bool} (he : PE X o ta) (M : CalC X.prog X.w X.K X.mg X.base CX k C m ps sp) (hr : Room k X.A) (hx : Passes CX X E) (ha : PA X (e :: es) t)
    (hst : starEach (e :: es) X.env = (false, eval e X.env) :: starEach es X.env := by rfl) (hpl : (backTo pos (starEach es X.env)).any (·.1) = false := by rfl)
    (ht : eval (.Call (.Attribute o m apos) (e :: es) [] pos) X.env = (do
      let ov ← eval o X.env
      standAt apos.atName
      let (f, first) ← holding [ov] (getMethod ov m pl)
      callWith pos f first (backTo pos (starEach (e :: es) X.env)) (backToKw pos (keywordEach [] X.env))) := by rfl) : PE X (.Call (.Attribute o m apos) (e :: es) [] pos) (ClX.tCMeth C sp E ta t) := by
  obtain ⟨p, f, fd, hc, r, hb, F⟩ := M.ex
  exact ClX.pe_cmeth he r hc (rawN F hb) hr hx ha hst hpl ht
def tCMethT (C : Addr) (sp : Sp) (E : L2.St → XK) (ta : TE) (t : TA) : TE := fun σ H Q => ta σ H fun x H1 => x = .ref C ∧ t σ H1 fun vs H2 => sp (.ref C :: vs) H2 Q (E σ)
theorem run_cmT {q : Addr} {us : List Value} {vs : List V} {s : Shared} {pins : List (Addr × Obj)} {σ : L2.St} {H : Hp} {Q : VK} (F : FnR X.prog X.w X.K X.mg X.base (L2.CX X.prog X.w) k g sp) (hr : Room k X.A) (tk : Takes X W) (I : Inv X ((q, PySem.W.methodObj (.ref g) (.ref C)) :: pins) σ H s)
    (r : Vals vs us) (h : sp (.ref C :: vs) H Q (WE W σ)) : wpAny (model X.prog X.w) X.A (call (.ref q) us) (EP X pins σ Q) X.xe s := by
  have z : wpAny (model X.prog X.w) X.A (call (.ref q) us) (EP X ((q, PySem.W.methodObj (.ref g) (.ref C)) :: pins) σ Q) X.xe s :=
    wpAny_call (PySem.W.method_call (ClX.pin_at I) (codeAny_mono (F X.A X.stack s H (.ref C :: us) (.ref C :: vs) Q (WE W σ) hr I.env0 (.cons rfl r) h) fun r s' hq => by
      cases r with
      | error e => exact passAt tk σ _ _ _ e s' I hq
      | ok fl =>
        cases fl with
        | ret u => exact I.after hq
        | next => exact False.elim hq
        | brk => exact False.elim hq
        | cont => exact False.elim hq))
  exact thn z fun _ _ y => ClX.unpinE y
theorem pe_cmT {pl : Sem Bool} (he : PE X o ta) (M : CalC X.prog X.w X.K X.mg X.base (L2.CX X.prog X.w) k C m ps sp) (hr : Room k X.A) (tk : Takes X W) (ha : PA X (e :: es) t)
    (hst : starEach (e :: es) X.env = (false, eval e X.env) :: starEach es X.env := by rfl) (hpl : (backTo pos (starEach es X.env)).any (·.1) = false := by rfl)
    (ht : eval (.Call (.Attribute o m apos) (e :: es) [] pos) X.env = (do
      let ov ← eval o X.env
      standAt apos.atName
      let (f, first) ← holding [ov] (getMethod ov m pl)
      callWith pos f first (backTo pos (starEach (e :: es) X.env)) (backToKw pos (keywordEach [] X.env))) := by rfl) : PE X (.Call (.Attribute o m apos) (e :: es) [] pos) (tCMethT C sp (WE W) ta t) := by
  obtain ⟨p, f, fd, hc, r, hb, F0⟩ := M.ex
  have F := rawN F0 hb
  refine ⟨fun pins s σ H Q I h => ?_⟩
  refine PySem.W.methodCall_KW (pl := pl) (thn (he.run pins s σ H _ I h) fun u s1 ⟨x, H1, I1, rx, ex, q⟩ => ?_) ht
  subst ex
  obtain rfl : u = Value.ref C := rx
  refine ClX.getmethcm_ok I1 r hc fun s2 I2 => ?_
  refine ClX.callwith_cm I2 (ClX.base_none I1 (Nat.le_refl _)) hc.fi (thn (ha.run pos _ s2 σ H1 _ I2 q) fun us s3 ⟨vs, H2, I3, rv, q2⟩ => ⟨⟨ClX.pin_at I3, I3.kIn⟩, ?_⟩) hst hpl
  exact run_cmT F hr tk I3 rv q2
end
section
variable {X : Cx} {CX : CXT} {k i : Nat} {C : Addr} {x : Str} {ps : List Str} {sp : Sp} {E : XK} {e : Expr} {es : List Expr} {t : TA} {p pos : Pos}
/-- c(..), c a local name that holds the class C -/
def tMakeV (i : Nat) (C : Addr) (sp : Sp) (E : XK) (t : TA) : TE := fun σ H Q => σ[i]? = some (some (.ref C)) ∧ t σ H fun vs H1 => ∀ x dx, H1 x = none → H1 dx = none → dx ≠ x →
  sp (.ref x :: vs) (upd (upd H1 dx (.own x)) x (.ins C dx [])) (fun v H2 => v = .non ∧ Q (.ref x) H2) E
theorem pe_mkV (M : CalI X.prog X.w X.K X.mg X.base CX k C ps sp) (hr : Room (k + 1) X.A) (hx : Passes CX X E) (hN : X.N[i]? = some x) (hv : Vis X.env.scope x) (ha : PA X (e :: es) t)
    (hd : (x == ("__debug__" : Str)) = false := by decide) (hcd : (x == ("__classdict__" : Str)) = false := by decide)
    (hs : (e :: es).all nostar = true := by rfl) : PE X (.Call (.Name x p) (e :: es) [] pos) (tMakeV i C sp E t) := by
  obtain ⟨f, fd, m, b, F⟩ := M.ex
  simp only [List.all_cons, Bool.and_eq_true] at hs
  refine ⟨fun pins s σ H Q I h => ?_⟩
  obtain ⟨hσ, h⟩ := h
  refine wpAny_Call_Name_kw (thn ((pe_var (pos := p) (i := i) hN hv hd hcd).run pins s σ H (fun v H1 => v = .ref C ∧ H1 = H) I ⟨.ref C, hσ, rfl, rfl⟩) fun u s0 ⟨v, H0, I0, r0, ev, eH⟩ => ?_)
  subst ev
  rw [eH] at I0
  cases r0
  refine PySem.W.callWith_K (h₀ := X.base) I0.ok.mod.kin m.kp (thn (ha.run pos pins s0 σ H _ I0 h) fun us s1 ⟨vs, H1, I1, r, q⟩ => ⟨I1.kIn, ?_⟩) (star_ok hs.1) (back_ok hs.2)
  have hq := q (s1.heap.objs.size + 1) s1.heap.objs.size (I1.hok.fresh (Nat.le_succ _)) (I1.hok.fresh (Nat.le_refl _)) (Nat.ne_of_lt (Nat.lt_succ_self _))
  have I2 := Inv.made (C := C) I1
  have r2 : Vals (V.ref (s1.heap.objs.size + 1) :: vs) (Value.ref (s1.heap.objs.size + 1) :: us) := .cons rfl r
  have hl : (Value.ref (s1.heap.objs.size + 1) :: us).length = ps.length := by
    have e := r2.length
    rw [F.len _ _ _ _ hq] at e
    exact e.symm
  have b2 := b _ (Value.ref (s1.heap.objs.size + 1) :: us) I2.kIn (by rw [List.append_nil]; exact hl)
  rw [List.append_nil] at b2
  refine wpAny_call (make_map (f := f) I1.kIn m.makes m.init (beq_iff_eq.mp m.fn) (codeAny_mono (F.run _ X.stack _ _ ⟨Value.ref (s1.heap.objs.size + 1) :: us, []⟩ (Value.ref (s1.heap.objs.size + 1) :: us) _ _ E (hr.make C us [])
    (I2.env0.make C us []) b2 r2 hq) fun r s' hq' => ?_))
  cases r with
  | error e => exact hx pins σ _ _ e s' I2 hq'
  | ok fl =>
    cases fl with
    | ret u =>
      obtain ⟨v, H', I3, rv, ev, q3⟩ := I2.after hq'
      subst ev
      exact ⟨rv, ⟨V.ref (s1.heap.objs.size + 1), H', I3, rfl, q3⟩⟩
    | next => exact False.elim hq'
    | brk => exact False.elim hq'
    | cont => exact False.elim hq'
end
/-! ### o[i] op= e, o a list -/
def gIxL : V → V → Hp → VK → Prop := fun o i H Q => ∃ (p : Addr) (xs : List V), o = .ref p ∧ H p = some (.lst xs) ∧ ∃ (k : Int) (j : Nat), i = .int k ∧ k = (j : Int) ∧ ∃ v, xs[j]? = some v ∧ Q v H
theorem get_L {X : Cx} : PGet X gIxL := by
  intro pins s σ H o i ov iv Q I ro ri h
  obtain ⟨p, xs, rfl, hp, k, j, rfl, rfl, v, hv, q⟩ := h
  cases ro
  obtain ⟨t, rfl⟩ := ri
  obtain ⟨its, r, pl, hz⟩ := I.list (.inl (.inl hp))
  obtain ⟨w, ew, rw'⟩ := r.get hv
  have hl := r.length
  have hn := line63
  have hj := (List.getElem?_eq_some_iff.mp hv).1
  exact wpAny_getItem_list pl.isList (by omega) (by omega) (by simpa using ew) ⟨v, H, I, rw', q⟩
/-! ### an int as a test -/
def tTruI (ta : TE) : TT := fun σ H Q => ta σ H fun x H' => ∃ i : Int, x = .int i ∧ Q (i != 0) H'
theorem pt_truthJ {X : Cx} {a : Expr} {ta : TE} (ha : PE X a ta) (he : ∀ whole, isTrue a X.env whole = (do let v ← whole; standAt a.pos; holding [v] (truthy v))) : PT X a (tTruI ta) := by
  refine ⟨fun pins s σ H Q I h => ?_⟩
  refine isTrue_plain (thn (ha.run pins s σ H _ I h) fun v s1 ⟨x, H1, I1, r1, i, e, q1⟩ => ?_) (he _)
  subst e
  exact tru_ok pins s1 σ H1 (.int i) v Q I1 r1 ⟨_, rfl, q1⟩
theorem ix_tK {X : Cx} {K : PySem.W.Frag} (hK : X.K = K) : IxR X (rIxT K) := by subst hK; exact ix_tup
end Fx
/-! an object of one of two classes: two readings, one of which is chosen -/
namespace Fx
open PySem PySem.Spec PyProof.Rows L2
def tAlt (t1 t2 : TE) : TE := fun σ H Q => t1 σ H Q ∨ t2 σ H Q
theorem alt_l {t1 t2 : TE} {σ : L2.St} {H : Hp} {Q : VK} (h : t1 σ H Q) : tAlt t1 t2 σ H Q := .inl h
theorem alt_r {t1 t2 : TE} {σ : L2.St} {H : Hp} {Q : VK} (h : t2 σ H Q) : tAlt t1 t2 σ H Q := .inr h
theorem pe_alt {X : Cx} {e : Expr} {t1 t2 : TE} (h1 : PE X e t1) (h2 : PE X e t2) : PE X e (tAlt t1 t2) := ⟨fun pins s σ H Q I h => h.elim (h1.run pins s σ H Q I) (h2.run pins s σ H Q I)⟩
def tAltS (t1 t2 : TS) : TS := fun D σ H => t1 D σ H ∨ t2 D σ H
theorem altS_l {t1 t2 : TS} {D : Ends} {σ : L2.St} {H : Hp} (h : t1 D σ H) : tAltS t1 t2 D σ H := .inl h
theorem altS_r {t1 t2 : TS} {D : Ends} {σ : L2.St} {H : Hp} (h : t2 D σ H) : tAltS t1 t2 D σ H := .inr h
theorem ps_alt {X : Cx} {s : Stmt} {t1 t2 : TS} (h1 : PS X s t1) (h2 : PS X s t2) : PS X s (tAltS t1 t2) := ⟨fun pins s' σ H D I h => h.elim (h1.run pins s' σ H D I) (h2.run pins s' σ H D I)⟩
/-- o.m(), o (a computed one) an object of one of two classes -/
def tMeth0A (C1 : Addr) (m : Str) (sp1 : Sp) (E1 : XK) (C2 : Addr) (sp2 : Sp) (E2 : XK) (to : TE) : TE := fun σ H Q => to σ H fun v H1 => (∃ a dx fs, v = .ref a ∧ H1 a = some (.ins C1 dx fs) ∧ fs.lookup m = none ∧ sp1 [.ref a] H1 Q E1) ∨ (∃ a dx fs, v = .ref a ∧ H1 a = some (.ins C2 dx fs) ∧ fs.lookup m = none ∧ sp2 [.ref a] H1 Q E2)
theorem pe_meth0A {X : Cx} {CX1 CX2 : CXT} {k1 k2 : Nat} {f1 f2 C1 C2 : Addr} {fd1 fd2 : FuncData} {ps1 ps2 : List Str} {sp1 sp2 : Sp} {E1 E2 : XK} {m : Str} {pos apos : Pos} {o : Expr} {ta : TE} {pl : Sem Bool} (he : PE X o ta)
    (c1 : Cls X.K C1) (m1 : Meth X.K C1 m f1) (F1 : FnOk X.prog X.w X.K X.mg X.base CX1 k1 f1 fd1 ps1 sp1) (r1 : Room k1 X.A) (b1 : Binds X.K fd1 ps1 []) (x1 : Passes CX1 X E1)
    (c2 : Cls X.K C2) (m2 : Meth X.K C2 m f2) (F2 : FnOk X.prog X.w X.K X.mg X.base CX2 k2 f2 fd2 ps2 sp2) (r2 : Room k2 X.A) (b2 : Binds X.K fd2 ps2 []) (x2 : Passes CX2 X E2)
    (ht : eval (.Call (.Attribute o m apos) [] [] pos) X.env = (do
      let ov ← eval o X.env
      standAt apos.atName
      let (f, first) ← holding [ov] (getMethod ov m pl)
      callWith pos f first (backTo pos (starEach [] X.env)) (backToKw pos (keywordEach [] X.env))) := by rfl) :
    PE X (.Call (.Attribute o m apos) [] [] pos) (tMeth0A C1 m sp1 E1 C2 sp2 E2 ta) := by
  refine ⟨fun pins s σ H Q I h => ?_⟩
  refine PySem.W.methodCall_KW (pl := pl) (thn (he.run pins s σ H _ I h) fun u s1 ⟨x, H1, I1, rx, q⟩ => ?_) ht
  rcases q with ⟨a, dx, fs, ex, ea, l, q⟩ | ⟨a, dx, fs, ex, ea, l, q⟩
  · subst ex
    obtain rfl : u = Value.ref a := rx
    refine getmeth_ok I1 ea c1 m1 l ?_
    exact PySem.W.callWith_K0 (first := [.ref a]) I1.kIn m1.kp (run_fn (us := [.ref a]) (vs := [.ref a]) (dvs := []) (ds := []) F1 r1 b1 .nil x1 I1 (.cons rfl .nil) (by rw [List.append_nil]; exact q))
  · subst ex
    obtain rfl : u = Value.ref a := rx
    refine getmeth_ok I1 ea c2 m2 l ?_
    exact PySem.W.callWith_K0 (first := [.ref a]) I1.kIn m2.kp (run_fn (us := [.ref a]) (vs := [.ref a]) (dvs := []) (ds := []) F2 r2 b2 .nil x2 I1 (.cons rfl .nil) (by rw [List.append_nil]; exact q))
end Fx
/-! dicts of the module with text keys among the head's facts -/
namespace FxH
open PySem PySem.Spec PyProof.Rows L2 He
abbrev AlT : Type := AlE × List (Option (List (Option (Str × Int))))
def obsT (file : Str) (fa : List Fct) (fn : List DefD) (fi : List InD) (fs : List StE) (ts : List Tab) (K : PySem.W.Frag) : AlT := (obsE file fa fn fi fs K, ts.map fun t => dicW K (t.1 K))
def valT (fn : List DefD) (fi : List InD) (fs : List StE) (ts : List Tab) (w : World) : AlT := (valE fn fi fs, ts.map fun t => some (keysIn w.params t.2))
def SaysT (file : Str) (fa : List Fct) (fn : List DefD) (fi : List InD) (fs : List StE) (ts : List Tab) (w : World) (K : PySem.W.Frag) : Prop := obsT file fa fn fi fs ts K = valT fn fi fs ts w
def obsTG (n : Nat) (file : Str) (fa : List Fct) (fn : List DefD) (fi : List InD) (fs : List StE) (ts : List Tab) (g : Addr → Option Obj) : AlT := obsT file fa fn fi fs ts (frG g (asR g n))
def hookT (n : Nat) (file : Str) (fa : List Fct) (fn : List DefD) (fi : List InD) (fs : List StE) (ts : List Tab) : PySem.W.Hook where
  α := AlT
  obs := fun s => obsTG n file fa fn fi fs ts s.heap.get?
  val := fun w => valT fn fi fs ts w
  says := fun w h => ∃ K : PySem.W.Frag, K.In h ∧ SaysT file fa fn fi fs ts w K
  of := fun _ _ e => ⟨_, frG_in, e⟩
  keeps := fun _ _ _ ⟨K, hK, c⟩ k => ⟨K, PySem.W.Frag.In.keeps hK k, c⟩
theorem obsTG_eq {n : Nat} {file : Str} {fa : List Fct} {fn : List DefD} {fi : List InD} {fs : List StE} {ts : List Tab} {g : Addr → Option Obj} {s : Shared} (h : ∀ a, g a = s.heap.get? a) : obsTG n file fa fn fi fs ts g = (hookT n file fa fn fi fs ts).obs s := by
  have e : g = s.heap.get? := funext h
  rw [e] <;> rfl
section
variable {file : Str} {fa : List Fct} {fn : List DefD} {fi : List InD} {fs : List StE} {ts : List Tab} {w : World} {K : PySem.W.Frag}
theorem SaysT.e (c : SaysT file fa fn fi fs ts w K) : SaysE file fa fn fi fs K := congrArg (fun z : AlT => z.1) c
theorem SaysT.tab (c : SaysT file fa fn fi fs ts w K) (i : Nat) {t : Tab} (h : ts[i]? = some t := by rfl) : dicW K (t.1 K) = some (keysIn w.params t.2) := by
  have e : ts.map (fun t => dicW K (t.1 K)) = ts.map fun t => some (keysIn w.params t.2) := congrArg (fun z : AlT => z.2) c
  have e2 : (ts.map fun t => dicW K (t.1 K))[i]? = (ts.map fun t => some (keysIn w.params t.2))[i]? := by rw [e]
  rw [List.getElem?_map, List.getElem?_map, h] at e2
  exact Option.some.inj e2
end
end FxH
namespace Fx
open PySem PySem.Spec PyProof.Rows L2 He
/-- at d: a dict of the module with these text keys in order -/
structure KTab (K : PySem.W.Frag) (w : World) (d : Addr) (ks : List Str) : Prop where
  ex : ∃ es n, KDict K w d es n ∧ es.toList.map He.keyOf = keysIn w.params ks
theorem ktab_of {K : PySem.W.Frag} {w : World} {d : Addr} {ks : List Str} (h : dicW K d = some (keysIn w.params ks)) : KTab K w d ks := by
  obtain ⟨es, n, D⟩ := dicW_ok h
  refine ⟨es, n, D, ?_⟩
  unfold dicW at h
  rw [D.at_] at h
  dsimp only at h
  split at h
  · exact Option.some.inj h
  · cases h
/-- a key that is not there -/
theorem nsIn_none {K : PySem.W.Frag} {w : World} {d : Addr} {es : Array DictEntry} {n : Nat} {ks : List Str} (D : KDict K w d es n) (e : es.toList.map He.keyOf = keysIn w.params ks) {z : Str} (h : z ∉ ks) : PySem.W.nsIn K d z = some none := by
  unfold PySem.W.nsIn
  rw [D.at_]
  have key : ∀ (l : List DictEntry) (ks : List Str), l.map He.keyOf = keysIn w.params ks → z ∉ ks → l.find? (·.key.isStr z) = none ∧ l.any (·.refKey) = false := by
    intro l
    induction l with
    | nil => exact fun _ _ _ => ⟨rfl, rfl⟩
    | cons a l ih =>
      intro ks e h
      cases ks with
      | nil => cases e
      | cons k ks =>
        have e2 : He.keyOf a :: l.map He.keyOf = some (k, PyData.keyHash w.params k) :: keysIn w.params ks := e
        injection e2 with h1 h2
        obtain ⟨i1, i2⟩ := ih ks h2 (fun m => h (List.mem_cons_of_mem _ m))
        unfold He.keyOf at h1
        split at h1
        · rename_i x t q
          have h4 := (Prod.mk.inj (Option.some.inj h1)).1
          have ne : x ≠ z := fun e => h (by rw [← e, h4]; exact List.mem_cons_self)
          constructor
          · rw [List.find?_cons_of_neg]
            · exact i1
            · rw [q]
              simp [Value.isStr, ne]
          · rw [List.any_cons, i2]
            simp [DictEntry.refKey, q]
        · cases h1
  obtain ⟨h1, h2⟩ := key _ _ e h
  show (match es.toList.find? (·.key.isStr z) with
      | some e => some (some e.val)
      | none => if es.toList.any (·.refKey) then none else some none) = some none
  rw [h1, h2]
  rfl
/-- a tuple of the module: its items -/
def tupV (K : PySem.W.Frag) (v : Value) (r : List V) : Bool := match v with
  | .ref a => (match K.lookup a with
    | some ⟨.type c, _, .seq its _, _⟩ => decide (c = "tuple") && (decide (its.size ≤ sizeLine) && He.relAll r its.toList)
    | _ => false)
  | _ => false
theorem tupV_ok {K : PySem.W.Frag} {v : Value} {r : List V} (h : tupV K v r = true) : ∃ a, v = .ref a ∧ ∀ H, SqT K H a r := by
  cases v with
  | ref a =>
    refine ⟨a, rfl, fun H => ?_⟩
    unfold tupV at h
    dsimp only at h
    cases q : K.lookup a with
    | none => rw [q] at h; cases h
    | some o =>
      obtain ⟨oc, od, dt, osl⟩ := o
      rw [q] at h
      cases oc with
      | type c =>
        cases dt with
        | seq its n =>
          obtain ⟨h1, h2⟩ := He.ba (show (decide (c = "tuple") && (decide (its.size ≤ sizeLine) && He.relAll r its.toList)) = true from h)
          obtain ⟨h3, h4⟩ := He.ba h2
          exact .inr ⟨_, its, n, q, congrArg Value.type (of_decide_eq_true h1), rfl, of_decide_eq_true h3, He.relAll_ok h4⟩
        | _ => cases h
      | _ => cases dt <;> cases h
  | _ => cases h
/-- a dict of the module: tuples at its keys -/
def kdB (K : PySem.W.Frag) (d : Str) (rows : List (Str × List V)) : Bool := rows.all fun r => match PySem.W.nsIn K (He.ga K d) r.1 with
  | some (some v) => tupV K v r.2
  | _ => false
theorem kdB_ok {K : PySem.W.Frag} {d : Str} {rows : List (Str × List V)} (h : kdB K d rows = true) {r : Str × List V} (hr : r ∈ rows) : ∃ a, PySem.W.nsIn K (He.ga K d) r.1 = some (some (.ref a)) ∧ ∀ H, SqT K H a r.2 := by
  have := List.all_eq_true.mp h r hr
  split at this
  · rename_i v e
    obtain ⟨a, rfl, q⟩ := tupV_ok this
    exact ⟨a, e, q⟩
  · cases this
/-- a dict of the module: scalars at its keys -/
def kdS (K : PySem.W.Frag) (d : Str) (rows : List (Str × V)) : Bool := rows.all fun r => match PySem.W.nsIn K (He.ga K d) r.1 with
  | some (some v) => He.relAll [r.2] [v]
  | _ => false
theorem kdS_ok {K : PySem.W.Frag} {d : Str} {rows : List (Str × V)} (h : kdS K d rows = true) {r : Str × V} (hr : r ∈ rows) : ∃ u, PySem.W.nsIn K (He.ga K d) r.1 = some (some u) ∧ RelV r.2 u := by
  have := List.all_eq_true.mp h r hr
  split at this
  · rename_i v e
    have z := He.relAll_ok this
    cases z with
    | cons z _ => exact ⟨v, e, z⟩
  · cases this
theorem KTab.dct {K : PySem.W.Frag} {w : World} {d : Addr} {ks : List Str} (T : KTab K w d ks) {x : Str} {u : Value} {v : V} (e : PySem.W.nsIn K d x = some (some u)) (r : RelV v u) : KDct K w d x v := by
  obtain ⟨es, n, D, _⟩ := T.ex
  exact ⟨es, n, u, D.at_, D.lit, e, r⟩
theorem ktab_pairs {P : Program} {w : World} : ∀ {l : List DictEntry} {ks : List Str}, l.map He.keyOf = keysIn w.params ks → Pairs (strKind P w) l (ks.zip (l.map (·.val)))
  | [], [], _ => .nil
  | [], k :: ks, h => by cases h
  | e :: l, [], h => by cases h
  | e :: l, k :: ks, h => by
    have e2 : He.keyOf e :: l.map He.keyOf = some (k, PyData.keyHash w.params k) :: keysIn w.params ks := h
    injection e2 with h1 h2
    have ih := ktab_pairs (P := P) h2
    unfold He.keyOf at h1
    split at h1
    · rename_i x t q
      have h4 := (Prod.mk.inj (Option.some.inj h1)).1
      exact Pairs.cons (kv := (k, e.val)) (show (strKind P w).is k e.key = true by rw [q, h4]; exact strKind_is P w k t) rfl ih
    · cases h1
theorem ktab_at {P : Program} {w : World} {K : PySem.W.Frag} {h : Heap} {d : Addr} {ks : List Str} (X : K.In h) (T : KTab K w d ks) (nd : ks.Nodup) : ∃ kvs ep, h.DictAt (strKind P w) d kvs ep ∧ kvs.map (·.1) = ks ∧ (d == sysModules) = false := by
  obtain ⟨es, n, D, e⟩ := T.ex
  have ln : ks.length = es.toList.length := by
    have := congrArg List.length e
    rw [List.length_map, keysIn, List.length_map] at this
    exact this.symm
  have em : (ks.zip (es.toList.map (·.val))).map (·.1) = ks := by
    rw [List.map_fst_zip]
    rw [List.length_map]
    omega
  refine ⟨_, n, ⟨_, es, X _ _ D.at_, ⟨rfl, rfl, rfl⟩, rfl, fun e he => ?_, ktab_pairs e, by rw [em]; exact nd⟩, em, D.low⟩
  obtain ⟨x, t, e1, e2⟩ := D.lit.all e (Array.mem_toList_iff.mpr he)
  exact ⟨x, by rw [e1]; exact strKind_is P w x t, e2⟩
theorem strs_at {P : Program} {w : World} : ∀ {us : List Value} {vs : List (Str × Value)}, us.length = vs.length → (∀ (j : Nat) (v : Value), us[j]? = some v → ∃ (k : Str) (x : Value), vs[j]? = some (k, x) ∧ (strKind P w).is k v = true) → Vals (vs.map fun p => V.str p.1) us
  | [], [], _, _ => .nil
  | u :: us, q :: vs, hl, h => by
    obtain ⟨k, x, e1, e2⟩ := h 0 u rfl
    have e1' : q = (k, x) := Option.some.inj e1
    subst e1'
    rw [List.map_cons]
    refine .cons ?_ (strs_at (P := P) (w := w) (by simpa using hl) fun j v e => ?_)
    · obtain ⟨t, rfl⟩ := Value.isStrOf_shape (show Value.isStrOf k u = true from e2)
      exact ⟨t, rfl⟩
    · obtain ⟨k, x, a, b⟩ := h (j + 1) v (by simpa using e)
      exact ⟨k, x, by simpa using a, b⟩
  | [], _ :: _, hl, _ => by simp at hl
  | _ :: _, [], hl, _ => by simp at hl
/-- list(d): the keys of a dict of the module -/
def rListK (K : PySem.W.Frag) (w : World) : List V → Hp → VK → Prop := fun xs H Q => ∃ (d : Addr) (ks : List Str), xs = [.ref d] ∧ KTab K w d ks ∧ ks.Nodup ∧ ks.length ≤ sizeLine ∧ ∀ p, H p = none → Q (.ref p) (upd H p (.lst (ks.map V.str)))
theorem call_listK {X : Cx} (hcalm : X.calm = true) : CallR X (.type "list") (rListK X.K X.w) := by
  intro pins s σ H xs us Q I r q
  obtain ⟨a, ks, ex, T, nd, z, q⟩ := q
  subst ex
  obtain ⟨u, eu, rx⟩ := vals1 r
  subst eu
  cases rx
  obtain ⟨kvs, ep, hat, ek, lo⟩ := ktab_at (P := X.prog) I.kIn T nd
  have lk : kvs.length = ks.length := by rw [← ek, List.length_map]
  refine PySem.W.kdl_call (PySem.W.kdl_dict (knd := strKind X.prog X.w) (kvs := kvs) (ep := ep) lo) (I.ok.hd hcalm) hat (by rw [lk]; exact z) fun h' tk acc c' hk hD hacc => ?_
  have hv : Vals (kvs.map fun p => V.str p.1) acc.toList := strs_at (P := X.prog) (w := X.w) (by rw [Array.length_toList]; exact hacc.1) fun j v e => hacc.2 j v (by rw [← Array.getElem?_toList]; exact e)
  have ek2 : (ks.map V.str) = kvs.map fun p => V.str p.1 := by
    rw [← ek, List.map_map]
    rfl
  refine ⟨.ref s.heap.objs.size, upd H s.heap.objs.size (.lst (ks.map V.str)), I.laid (t' := tk) hk (Nat.le_refl _)
    (show ObjOk X.prog X.w _ _ _ (.lst (ks.map V.str)) from ⟨by rw [List.length_map]; exact z, acc.toList, c', by rw [ek2]; exact hv, by rw [Array.toArray_toList]; exact hD⟩), rfl, q _ (I.hok.fresh (Nat.le_refl _))⟩
end Fx
/-! a def with two defaults -/
namespace Fx
open PySem PySem.Spec PyProof.Rows L2
abbrev BindD2 (x q : Str) (st : Stmt) (ps : List Str) (n j : Nat) : Prop := ∀ (T : Addr) (kV doc pm : Value) (an : Option Addr) (cdv ct : Value) (us its : List Value), us.length = n → its.length = 2 →
  ∃ k, bindArgs (PySem.W.fnOf x q (defArgs st) (defBody st) (defScope st) (.ref T) kV doc pm an cdv ct) ⟨us, []⟩ = seqItems? (.ref T) >>= k ∧ k (some its.toArray) = pure (ps.zip (us ++ its.drop j))
def SrcD2 (K : PySem.W.Frag) (mg : Str → Option Value) (x : Str) (st : Stmt) (d1 d2 : V) : Prop := ∃ f fd, mg x = some (.ref f) ∧ FunD K x x (defArgs st) (defBody st) (defScope st) [d1, d2] [] f fd
structure CalD2 (P : Program) (w : World) (K : PySem.W.Frag) (mg : Str → Option Value) (base : Heap) (CX : CXT) (k : Nat) (x : Str) (ps : List Str) (d1 d2 : V) (sp : Sp) : Prop where
  ex : ∃ f fd ds es, mg x = some (.ref f) ∧ PySem.W.keepIn K (.ref f) = true ∧ Binds K fd ps [] ∧ Vals [d2] ds ∧ Binds K fd ps ds ∧ Vals [d1, d2] es ∧ Binds K fd ps es ∧ FnOk P w K mg base CX k f fd ps sp
section
variable {P : Program} {w : World} {K : PySem.W.Frag} {mg : Str → Option Value} {base : Heap} {CX : CXT} {x : Str} {st : Stmt} {N ps : List Str} {k : Nat} {d1 d2 : V} {sp : Sp}
theorem CalD2.full (M : CalD2 P w K mg base CX k x ps d1 d2 sp) : Cal P w K mg base CX k x ps sp := by
  obtain ⟨f, fd, ds, es, g, kp, b, _, _, _, _, F⟩ := M.ex
  exact ⟨f, fd, g, kp, b, F⟩
theorem CalD2.one (M : CalD2 P w K mg base CX k x ps d1 d2 sp) : CalD P w K mg base CX k x ps d2 sp := by
  obtain ⟨f, fd, ds, es, g, kp, b, v1, b1, _, _, F⟩ := M.ex
  exact ⟨f, fd, ds, g, kp, b, v1, b1, F⟩
theorem SrcD2.of (S : SrcD2 K mg x st d1 d2) (n : Nat) (hn : n + 2 = ps.length) (b2 : BindD2 x x st ps (n + 2) 2) (b1 : BindD2 x x st ps (n + 1) 1) (b0 : BindD2 x x st ps n 0) (ok : ∀ {f fd}, FunD K x x (defArgs st) (defBody st) (defScope st) [d1, d2] [] f fd → FnOk P w K mg base CX k f fd ps sp) : CalD2 P w K mg base CX k x ps d1 d2 sp := by
  obtain ⟨f, fd, g, F⟩ := S
  obtain ⟨ds2, v2, B2⟩ := F.binds1 (ps := ps) (n + 2) 2 (by simp) (by simpa using hn) b2
  obtain ⟨ds1, v1, B1⟩ := F.binds1 (ps := ps) (n + 1) 1 (by simp) (by simpa using hn) b1
  obtain ⟨ds0, v0, B0⟩ := F.binds1 (ps := ps) n 0 (by simp) (by simpa using hn) b0
  have e : ds2 = [] := by
    cases v2
    rfl
  subst e
  exact ⟨f, fd, ds1, ds0, g, F.kp, B2, v1, B1, v0, B0, ok F⟩
end
section
variable {X : Cx} {CX : CXT} {E : XK} {k : Nat} {x : Str} {ps : List Str} {d1 d2 : V} {sp : Sp} {e : Expr} {es : List Expr} {t : TA} {p pos : Pos}
/-- f(e, ..), the last two by their defaults -/
theorem pe_calD2 (C : CalD2 X.prog X.w X.K X.mg X.base CX k x ps d1 d2 sp) (hr : Room k X.A) (hx : Passes CX X E) (ha : PA X (e :: es) t) (hg : Gl X x := by rfl) (hdb : (x == ("__debug__" : Str)) = false := by decide)
    (hs : (e :: es).all nostar = true := by rfl) : PE X (.Call (.Name x p) (e :: es) [] pos) (tCall sp [d1, d2] E t) := by
  obtain ⟨f, fd, _, ds, g, kp, _, _, _, vd, b, F⟩ := C.ex
  simp only [List.all_cons, Bool.and_eq_true] at hs
  exact pe_call F hr hg g kp b vd hx ha hdb (star_ok hs.1) (back_ok hs.2)
end
end Fx
/-! d[k] of a written dict, also in a comprehension; an index, a length of a list, a tuple or a text -/
namespace Fx
open PySem PySem.Spec PyProof.Rows L2
theorem ix_kd {X : Cx} {K : PySem.W.Frag} {w : World} (hK : X.K = K) (hw : X.w = w) : IxR X (rIxD K w) := by
  subst hK hw
  exact ix_kdict
theorem at0 {α : Type} {x : α} {xs : List α} : atI (x :: xs) 0 = some x := atI_nat (j := 0) rfl
theorem at1 {α : Type} {x y : α} {xs : List α} : atI (x :: y :: xs) 1 = some y := atI_nat (j := 1) rfl
theorem at2 {α : Type} {x y z : α} {xs : List α} : atI (x :: y :: z :: xs) 2 = some z := atI_nat (j := 2) rfl
theorem at3 {α : Type} {x y z u : α} {xs : List α} : atI (x :: y :: z :: u :: xs) 3 = some u := atI_nat (j := 3) rfl
theorem at4 {α : Type} {x y z u v : α} {xs : List α} : atI (x :: y :: z :: u :: v :: xs) 4 = some v := atI_nat (j := 4) rfl
theorem ifT {c A B : Prop} [Decidable c] (h : c) (a : A) : if c then A else B := by rw [if_pos h]; exact a
theorem ifF {c A B : Prop} [Decidable c] (h : ¬ c) (b : B) : if c then A else B := by rw [if_neg h]; exact b
section
variable {X : Cx}
def rIxC : R2 := fun x y H Q => rIxQ x y H Q ∨ rIxSt x y H Q
theorem ix_C : IxR X rIxC := by
  have h1 : IxR X rIxQ := ix_Q
  have h2 : IxR X rIxSt := ix_S
  intro ve se pins s σ H x y v u Q I rx ry h hs
  rcases h with h | h
  · exact h1 ve se pins s σ H x y v u Q I rx ry h hs
  · exact h2 ve se pins s σ H x y v u Q I rx ry h hs
def rLenC : List V → Hp → VK → Prop := fun vs H Q => rLenQ vs H Q ∨ rLenS vs H Q
theorem len_C : CallR X (.builtin "len") rLenC := by
  have h1 : CallR X (.builtin "len") rLenQ := len_Q
  have h2 : CallR X (.builtin "len") rLenS := len_S
  intro pins s σ H xs us Q I r q
  rcases q with q | q
  · exact h1 pins s σ H xs us Q I r q
  · exact h2 pins s σ H xs us Q I r q
end
theorem rng_get {α : Type} : ∀ (l : List α), ((List.range l.length).map fun i => (l[i]?).toList).flatten = l
  | [] => rfl
  | x :: l => by
    rw [List.length_cons, List.range_succ_eq_map, List.map_cons, List.map_map, List.flatten_cons]
    exact congrArg (fun t => [x] ++ t) (rng_get l)
/-- item i of what is made -/
abbrev gt (ys : List V) : Nat → List V := fun i => (ys[i]?).toList
theorem lcPut {H1 H H4 : Hp} {D : Addr} {ys : List V} {i : Nat} {y : V} (h : LcP H1 D (gt ys) i H) (nD : H1 D = none) (hi : i < 100000) (s : Same H H4) (e : ys[i]? = some y) : ∃ acc, H4 D = some (.lst acc) ∧ acc.length < sizeLine ∧ LcP H1 D (gt ys) (i + 1) (upd H4 D (.lst (acc ++ [y]))) :=
  h.put nD (fun i => by unfold gt; cases ys[i]? <;> simp) hi s (by unfold gt; rw [e]; rfl)
section
variable {K : PySem.W.Frag} {a : Addr} {xs : List V} {g : TG} {tt : TT} {te : TE} {vs : List Nat} {σ : L2.St} {H : Hp} {Q : VK} {j : Nat}
/-- [e for x in t], t a name of a tuple -/
theorem lcTn (ys : List V) (hv : σ[j]? = some (some (.ref a))) (hq : H a = some (.tup xs)) (hl : xs.length = ys.length)
    (hs : ∀ D, H D = none → ∀ i x H', xs[i]? = some x → LcP H D (gt ys) i H' → g x (wipe σ vs) H' fun σ2 H2 => wipe σ2 vs = wipe σ vs ∧ tt σ2 H2 fun b H3 =>
      if b = true then te σ2 H3 fun y H4 => ∃ acc, H4 D = some (.lst acc) ∧ acc.length < sizeLine ∧ LcP H D (gt ys) (i + 1) (upd H4 D (.lst (acc ++ [y]))) else LcP H D (gt ys) (i + 1) H3)
    (hd : ∀ D H', H D = none → Same H H' → H' D = some (.lst ys) → Q (.ref D) H') : tLc (iTup K (tVar j)) g tt te vs σ H Q :=
  ⟨_, hv, a, rfl, ⟨_, .inl (.inl hq)⟩, fun D nD => lcT (gt ys) nD (fun H' s => .inl (.inl (s _ _ hq))) (hs D nD) (fun H' s e => hd D H' nD s (by rw [e, hl, rng_get]))⟩
/-- the same of a list -/
theorem lcLn (ys : List V) (hv : σ[j]? = some (some (.ref a))) (hq : H a = some (.lst xs)) (hl : xs.length = ys.length)
    (hs : ∀ D, H D = none → ∀ i x H', xs[i]? = some x → LcP H D (gt ys) i H' → g x (wipe σ vs) H' fun σ2 H2 => wipe σ2 vs = wipe σ vs ∧ tt σ2 H2 fun b H3 =>
      if b = true then te σ2 H3 fun y H4 => ∃ acc, H4 D = some (.lst acc) ∧ acc.length < sizeLine ∧ LcP H D (gt ys) (i + 1) (upd H4 D (.lst (acc ++ [y]))) else LcP H D (gt ys) (i + 1) H3)
    (hd : ∀ D H', H D = none → Same H H' → H' D = some (.lst ys) → Q (.ref D) H') : tLc (iList K (tVar j)) g tt te vs σ H Q :=
  ⟨_, hv, a, rfl, ⟨_, .inl (.inl hq)⟩, fun D nD => lcL (gt ys) nD hq (hs D nD) (fun H' s e => hd D H' nD s (by rw [e, hl, rng_get]))⟩
end
/-- targets in a row: their number written -/
theorem pg_tupN {X : Cx} {K : PySem.W.Frag} {es : List Expr} {k : Nat} {t : TGs} {pos : Pos} (n : Nat) (hK : X.K = K) (hc : X.calm = true) (h : PGs X es t) (hn : (assignEach es X.env).length = n := by rfl) (hst : (assignEach es X.env).findIdx? (·.1) = none := by rfl) : PG X (.Tuple es k pos) (gTup K n t) := by
  subst hK
  exact pg_tup hc h hn hst
end Fx
/-! list(a text) -/
namespace FxSL
open PySem PySem.Spec PyProof.Rows
open PySem.Builtin
theorem slot_len : Slot "str" "__len__" "str.__len__" :=
  .of (owner := "str") (n := "__len__") (by rw [typeLookup_type, builtinLookup_eq_fast]; kernel_rfl) (by decide +kernel) (by decide +kernel) (by decide +kernel)
    (by first | exact .inl (by decide +kernel) | exact .inr (by decide +kernel)) (by rw [isSubtype_type]; kernel_rfl)
section
variable {prog : Program} {w : World} {A : Around} {E : Value → Shared → Prop} {s : Shared}
theorem hint_str {x : Str} {t : Tok} {Q : Bool → Shared → Prop} (h : Q false s) : wpAny (model prog w) A (Builtin.List.listLengthHint (.str x t)) Q E s := by
  have hT : s.TypeIs (.str x t) "str" := rfl
  unfold Builtin.List.listLengthHint
  refine wpAny_bind (wpAny_specialOf hT slot_len.lookup ?_)
  generalize hid : ("str.__len__" : String) = id0
  wp_delta
  rw [show splitId id0 = some ("str", "__len__") from by subst hid; decide +kernel]
  subst hid
  refine wpAny_bind (wpAny_isInstance (T := "str") (b := true) hT (by rw [isSubtype_type]; kernel_rfl) ?_)
  refine wpAny_ite_split (fun hab => absurd hab (by decide)) (fun _ => ?_)
  refine wpAny_ite_split (fun _ => ?_) (fun hab => absurd (by decide +kernel) hab)
  refine wpAny_bind (wpAny_typeOf hT ?_)
  exact wpAny_pure h
theorem extend_str {R : Result → Shared → Prop} (hh : A.handled = none) (x : Str) (t : Tok) (S : Addr) (res : Value) (c₀ : Nat) (hS : s.heap.get? S = some { cls := .type "list", data := .seq #[] c₀ })
    (hR : ∀ h' tk acc' c', (∀ b o, b ≠ S → s.heap.get? b = some o → h'.get? b = some o) → h'.get? S = some { cls := .type "list", dict := none, data := .seq acc' c', slots := #[] } →
      ItemsOf (SignAt x) acc' x.cps.size → R (.ok (.ret res)) { s with heap := h', toks := tk }) (hn : x.cps.size ≤ sizeLine) :
    wpAny (model prog w) A.in1 (Builtin.List.listExtendWith (.ref S) (.str x t) res)
      (fun fin s' => match fin with | .done f => R (.ok f) s' | .again c' => c'.quiet = true ∧ codeAny (model prog w) A c' R s') (fun e s' => R (.error e) s') s := by
  have hSI : S ≠ s.heap.objs.size := Nat.ne_of_lt (Heap.lt_size hS)
  have hSf : S ∉ [s.heap.objs.size] := fun hm => hSI (List.mem_singleton.mp hm)
  unfold Builtin.List.listExtendWith
  refine wpAny_bind (wpAny_typeOf (T := "str") (v := .str x t) rfl ?_)
  have h1 : Builtin.List.listSameRef (.ref S) (.str x t) = false := rfl
  have h2 : (Value.type "str" == Value.type "list") = false := by decide
  have h3 : (Value.type "str" == Value.type "tuple") = false := by decide
  simp only [h1, h2, h3, Bool.or_false, Bool.false_eq_true, if_false]
  refine wpAny_bind (wpAny_pyIter_str fun o St W st => ?_)
  refine wpAny_bind (wpAny_holding (hint_str ?_))
  rw [if_neg (by first | decide | decide +kernel)]
  refine wpAny_pure ⟨plainId_quiet PySem.F.plain_extend_loop _, codeAny_extend_loopS (W A.in1 hh).toS hn _ hSf _ x.cps.size 0 _ _ _ rfl (Nat.zero_le _) st (Heap.get?_push_of_some _ hS) (ItemsOf.nil _) fun s' acc' c' hm hS' hacc => ?_⟩
  rw [Moved.eq_with hm]
  refine hR s'.heap s'.toks acc' c' (fun b ob hb e => hm.heap b ob (fun hmem => ?_) (Heap.get?_push_of_some _ e)) hS' hacc
  rcases List.mem_cons.mp hmem with e' | hmem
  · exact hb e'
  · exact absurd (Heap.lt_size e) (by rw [List.mem_singleton.mp hmem]; exact Nat.lt_irrefl _)
theorem list_init_str {R : Result → Shared → Prop} (hh : A.handled = none) (x : Str) (t : Tok) (S : Addr) (hS : s.heap.get? S = some { cls := .type "list", data := .seq #[] })
    (hR : ∀ h' tk acc' c', (∀ b o, b ≠ S → s.heap.get? b = some o → h'.get? b = some o) → h'.get? S = some { cls := .type "list", dict := none, data := .seq acc' c', slots := #[] } →
      ItemsOf (SignAt x) acc' x.cps.size → R (.ok (.ret .none)) { s with heap := h', toks := tk }) (hn : x.cps.size ≤ sizeLine) :
    wpAny (model prog w) A.in1 (Builtin.«list.__init__» ⟨[.ref S, .str x t], []⟩)
      (fun fin s' => match fin with | .done f => R (.ok f) s' | .again c' => c'.quiet = true ∧ codeAny (model prog w) A c' R s') (fun e s' => R (.error e) s') s := by
  show wpAny _ _ (do let old ← Builtin.List.listItems (.ref S); Builtin.List.listUpdate (.ref S) (fun _ => #[]); letGo old.toList.reverse; Builtin.List.listExtendWith (.ref S) (.str x t) .none) _ _ s
  refine wpAny_bind ?_
  unfold Builtin.List.listItems
  refine wpAny_bind (wpAny_seqItems hS rfl (wpAny_pure ?_))
  show wpAny _ _ (updateSeq S (fun _ => #[]) >>= fun _ => letGo (#[] : Array Value).toList.reverse >>= fun _ => Builtin.List.listExtendWith (.ref S) (.str x t) .none) _ _ s
  refine wpAny_bind (wpAny_updateSeq hS rfl ?_)
  have hS₂ := Heap.get?_update_self (Obj.mapSeq (fun _ => (#[] : Array Value))) hS rfl
  have oth : ∀ b o, b ≠ S → s.heap.get? b = some o → (s.heap.update S (Obj.mapSeq (fun _ => (#[] : Array Value)))).get? b = some o :=
    fun b o hb e => (Heap.get?_update_other _ _ (Ne.symm hb)).trans e
  refine wpAny_bind (wpAny_letGo ?_)
  refine extend_str hh x t S .none _ hS₂ (fun h' tk acc' c' hk hS' hacc => ?_) hn
  exact hR h' tk acc' c' (fun b o hb e => hk b o hb (oth b o hb e)) hS' hacc
theorem call_list_str {x : Str} {t : Tok} {Q : Value → Shared → Prop} (hh : A.handled = none) (hn : x.cps.size ≤ sizeLine)
    (hQ : ∀ h' tk acc' c', (∀ b o, s.heap.get? b = some o → h'.get? b = some o) →
      h'.get? s.heap.objs.size = some { cls := .type "list", dict := none, data := .seq acc' c', slots := #[] } → ItemsOf (SignAt x) acc' x.cps.size → Q (.ref s.heap.objs.size) { s with heap := h', toks := tk }) :
    wpAny (model prog w) A (call (.type "list") [.str x t]) Q E s := by
  refine callType_codes (Q₁ := fun obj s₁ => obj = .ref s.heap.objs.size ∧ s₁ = { s with heap := s.heap.push { cls := .type "list", data := .seq #[] } }) PySem.F.called_list (PySem.F.typeCall_list_1 _) PySem.F.entry_list_init
    (code_list_new _ ⟨rfl, rfl⟩) fun obj s₁ h₁ => ?_
  obtain ⟨rfl, rfl⟩ := h₁
  have hS : (s.heap.push { cls := .type "list", data := .seq #[] }).get? s.heap.objs.size = some { cls := .type "list", data := .seq #[] } := Heap.get?_push_size _ rfl
  refine ⟨⟨_, hS, rfl⟩, PySem.F.args_list_init_2 _ _, list_init_str (A := A.in1) hh x t _ hS (fun h' tk acc' c' hk hS' hacc => ?_) hn⟩
  exact ⟨rfl, hQ h' tk acc' c' (fun b o e => hk b o (Nat.ne_of_lt (Heap.lt_size e)) (Heap.get?_push_of_some _ e)) hS' hacc⟩
end
end FxSL
namespace Fx
open PySem PySem.Spec PyProof.Rows L2
/-- list(z): a new list of its signs -/
def rListZ : List V → Hp → VK → Prop := fun xs H Q => ∃ z : Str, xs = [.str z] ∧ z.length ≤ sizeLine ∧ ∀ p, H p = none → Q (.ref p) (upd H p (.lst (z.cps.toList.map fun c => V.str ⟨#[c]⟩)))
theorem list_Z {X : Cx} (hc : X.calm = true) : CallR X (.type "list") rListZ := by
  intro pins s σ H xs us Q I r h
  obtain ⟨z, rfl, hz, q⟩ := h
  obtain ⟨u, rfl, rx⟩ := vals1 r
  obtain ⟨t, rfl⟩ := rx
  refine FxSL.call_list_str (I.ok.hd hc) hz fun h' tk acc c' hk hD hacc => ?_
  have hv : Vals (z.cps.toList.map fun c => V.str ⟨#[c]⟩) acc.toList := vals_of_idx _ _ (by rw [Array.length_toList, List.length_map, Array.length_toList]; exact hacc.1) fun j v e => by
    obtain ⟨c, u, e1, e2⟩ := hacc.2 j v (by rw [← Array.getElem?_toList]; exact e)
    refine ⟨.str ⟨#[c]⟩, ?_, ?_⟩
    · rw [List.getElem?_map, Array.getElem?_toList, e1]
      rfl
    · rw [e2]
      exact ⟨u, rfl⟩
  refine ⟨.ref s.heap.objs.size, upd H s.heap.objs.size (.lst (z.cps.toList.map fun c => V.str ⟨#[c]⟩)), I.laid (t' := tk) hk (Nat.le_refl _)
    (show ObjOk X.prog X.w _ _ _ (.lst _) from ⟨by rw [List.length_map, Array.length_toList]; exact hz, acc.toList, c', hv, by rw [Array.toArray_toList]; exact hD⟩), rfl, q _ (I.hok.fresh (Nat.le_refl _))⟩
end Fx
/-! a def with defaults that may raise, called in a try's body -/
namespace Fx
open PySem PySem.Spec PyProof.Rows L2
section
variable {X : Cx} {W : WX} {k : Nat} {x : Str} {ps : List Str} {dv d1 d2 : V} {sp : Sp} {e : Expr} {es : List Expr} {t : TA} {p pos : Pos}
theorem pe_calDS (C : CalD X.prog X.w X.K X.mg X.base (L2.CX X.prog X.w) k x ps dv sp) (hr : Room k X.A) (tk : Takes X W) (ha : PA X (e :: es) t) (hg : Gl X x := by rfl) (hdb : (x == ("__debug__" : Str)) = false := by decide)
    (hs : (e :: es).all nostar = true := by rfl) : PE X (.Call (.Name x p) (e :: es) [] pos) (tCallSD sp [dv] (WE W) t) := by
  obtain ⟨f, fd, ds, g, kp, _, vd, b, F⟩ := C.ex
  simp only [List.all_cons, Bool.and_eq_true] at hs
  exact pe_callSD F hr hg g kp b vd (fun σ => passAt tk σ) ha hdb (star_ok hs.1) (back_ok hs.2)
theorem pe_calD2S (C : CalD2 X.prog X.w X.K X.mg X.base (L2.CX X.prog X.w) k x ps d1 d2 sp) (hr : Room k X.A) (tk : Takes X W) (ha : PA X (e :: es) t) (hg : Gl X x := by rfl) (hdb : (x == ("__debug__" : Str)) = false := by decide)
    (hs : (e :: es).all nostar = true := by rfl) : PE X (.Call (.Name x p) (e :: es) [] pos) (tCallSD sp [d1, d2] (WE W) t) := by
  obtain ⟨f, fd, _, ds, g, kp, _, _, _, vd, b, F⟩ := C.ex
  simp only [List.all_cons, Bool.and_eq_true] at hs
  exact pe_callSD F hr hg g kp b vd (fun σ => passAt tk σ) ha hdb (star_ok hs.1) (back_ok hs.2)
end
/-- isinstance(err, (C1, C2, ..)) in an except suite -/
theorem call_isYTs {X : Cx} {a : Addr} {oe : Obj} {cls : Value} {d : Option Addr} {pn : List (Addr × Obj)} (hz : Zc cls d oe) (hf : ∃ vs, oe.data = .fields vs) :
    CallR (X.suite a ((a, oe) :: pn)) (.builtin "isinstance") (rIsYT X.K a cls d) := call_isYT (X := X.suite a ((a, oe) :: pn)) List.mem_cons_self hz hf
end Fx
/-! A world told by what it does at one text: a dict display of texts at the top asks the world one question; both answers are run. -/
namespace Fx
open PySem
def ft (b : Bool) (F : String → Bool) : String → Bool := fun s => match decide (s = "special-get-raises") with
  | true => b
  | false => F s
def wt (b : Bool) (w : World) : World := { w with params := { w.params with followText := ft b w.params.followText } }
theorem ft_eq (F : String → Bool) : ft (F "special-get-raises") F = F := by
  funext s
  unfold ft
  by_cases h : s = "special-get-raises"
  · rw [decide_eq_true h, h]
  · rw [decide_eq_false h]
theorem wt_eq (w : World) : wt (w.params.followText "special-get-raises") w = w := by
  unfold wt
  rw [ft_eq]
theorem of_wt {p : World → Prop} (h : ∀ (b : Bool) (w : World), p (wt b w)) (w : World) : p w := wt_eq w ▸ h _ w
end Fx
namespace Fx
/-- two looks at one run -/
theorem map2 {α β γ δ : Type} {x : Option α} {f : α → β} {g : α → γ} {b : β} {c : γ} (F : β → γ → δ) (h1 : x.map f = some b) (h2 : x.map g = some c) : x.map (fun s => F (f s) (g s)) = some (F b c) := by
  cases x with
  | none => cases h1
  | some s =>
    have e1 : f s = b := Option.some.inj h1
    have e2 : g s = c := Option.some.inj h2
    show some (F (f s) (g s)) = _
    rw [e1, e2]
end Fx
/-! Own errors of the shape: class C(FableError): def __init__(self, f, g): super().__init__('..'); self.f = f; self.g = g -/
namespace Fx
open PySem PySem.W PySem.Calls PyProof.Rows PySem.HandSPX
/-- the text of such an __init__ -/
def xA2 (f g : Str) (p1 p2 p3 : Pos) : Arguments := { posonlyargs := [], args := [{ arg := "self", annotation := none, pos := p1 }, { arg := f, annotation := none, pos := p2 }, { arg := g, annotation := none, pos := p3 }], vararg := none, kwonlyargs := [], kw_defaults := [], kwarg := none, defaults := [] }
def xB2 (f g m : Str) (q1 q2 q3 q4 q5 q6 q7 q8 q9 q10 r1 r2 r3 r4 : Pos) : List Stmt :=
  [.Expr (.Call (.Attribute (.Call (.Name "super" q1) [] [] q2) "__init__" q3) [.Constant (.str m) 0 q4] [] q5) q6,
   .Assign [.Attribute (.Name "self" q7) f q8] (.Name f q9) q10, .Assign [.Attribute (.Name "self" r1) g r2] (.Name g r3) r4]
def xS2 (f g : Str) : Scope := { kind := .function, names := [(PySem.Str.ofString "self", .local), (f, .local), (g, .local), (PySem.Str.ofString "__class__", .free), (PySem.Str.ofString "super", .globalImplicit)], isGenerator := false, isCoroutine := false, more := [] }
/-- what the written part says of the class at C, its name x, its fields f, g -/
structure XC2 (K : Frag) (P : Program) (x f g : Str) (C : Addr) : Prop where
  fo : FOk f
  go : FOk g
  ne : f ≠ g
  cls : ∃ nm q N bs bm sn sub ab col dd k0 k1 k2 k3 k5, K.lookup C = some (excClassObj nm q C N bs bm true sn sub ab col dd k0 k1 k2 k3 k5 "ValueError.__new__") ∧ refsVE bm = true ∧ alongIn K "__init__" bm = some (some (.builtin "ValueError.__init__"))
  sa : findIn K (.ref C) "__setattr__" = some (some (.builtin "object.__setattr__"))
  ga : findIn K (.ref C) "__getattribute__" = some (some (.builtin "BaseException.__getattribute__"))
  gg : findIn K (.ref C) "__getattr__" = some none
  noF : findIn K (.ref C) f = some none
  noG : findIn K (.ref C) g = some none
  kC : keepIn K (.ref C) = true
  exC : subIn K (.ref C) (.type "BaseException") = some true
  veC : subIn K (.ref C) (.type "ValueError") = some true
  tyC : typeIn K (.ref C) = some (.type "type")
  hdC : hasDictIn K C = true
  op : nsIn K cStatics "thirdparty.any" = some none
  init : ∃ (fI : Addr), findIn K (.ref C) "__init__" = some (some (.ref fI)) ∧ typeIn K (.ref fI) = some (.type "function") ∧
    ∃ (qual m : Str) (oc : Value) (od : Option Addr) (kV doc pm : Value) (an : Option Addr) (cda cc : Addr) (ct : Value) (osl : Array (Option Value)) (p1 p2 p3 q1 q2 q3 q4 q5 q6 q7 q8 q9 q10 r1 r2 r3 r4 : Pos)
      (ccl : Value) (cdd : Option Addr) (vs : Array Value) (ccs : Array (Option Value)) (tf : Tok) (cl : Value) (cld : Option Addr) (csl : Array (Option Value)),
      K.lookup fI = some ⟨oc, od, .func (ksFn "__init__" qual (xA2 f g p1 p2 p3) (xB2 f g m q1 q2 q3 q4 q5 q6 q7 q8 q9 q10 r1 r2 r3 r4) (xS2 f g) .none kV doc pm an (.ref cda) ct cc), osl⟩ ∧ codeIn K (.ref cda) qual = true ∧
      K.lookup cda = some ⟨ccl, cdd, .fields vs, ccs⟩ ∧ vs[2]? = some (.str (P.main.file : Str) tf) ∧ K.lookup cc = some ⟨cl, cld, .cell (some (.ref C)), csl⟩ ∧ (q3.endLine == q5.line) = true
  bd : ∀ (fd : FuncData) (p1 p2 p3 : Pos), fd.params = xA2 f g p1 p2 p3 → fd.defaults = .none → ∀ (u1 u2 u3 : Value), bindArgs fd ⟨[u1, u2, u3], []⟩ = pure [(("self" : Str), u1), (f, u2), (g, u3)]
  top : (P.main.scope.names.lookup ("super" : Str)).isSome = false
section
variable {f g : Str} (F : FOk f) (G : FOk g) (ne : f ≠ g)
include F G ne
theorem look2_self : (xS2 f g).names.lookup ("self" : Str) = some .local := by simp [xS2, List.lookup]
theorem look2_f : (xS2 f g).names.lookup f = some .local := by
  have h1 : (f == PySem.Str.ofString "self") = false := by simpa using F.ns
  simp [xS2, List.lookup, h1]
theorem look2_g : (xS2 f g).names.lookup g = some .local := by
  have h1 : (g == PySem.Str.ofString "self") = false := by simpa using G.ns
  have h2 : (g == f) = false := by simpa using (Ne.symm ne)
  simp [xS2, List.lookup, h1, h2]
theorem look2_cls : (xS2 f g).names.lookup ("__class__" : Str) = some .free := by
  have h1 : (("__class__" : Str) == f) = false := by simpa using (Ne.symm F.nc)
  have h3 : (("__class__" : Str) == g) = false := by simpa using (Ne.symm G.nc)
  have h2 : (("__class__" : Str) == PySem.Str.ofString "self") = false := by decide
  simp [xS2, List.lookup, h1, h2, h3]
theorem look2_sup : (xS2 f g).names.lookup ("super" : Str) = some .globalImplicit := by
  have h1 : (("super" : Str) == f) = false := by simpa using (Ne.symm F.nu)
  have h4 : (("super" : Str) == g) = false := by simpa using (Ne.symm G.nu)
  have h2 : (("super" : Str) == PySem.Str.ofString "self") = false := by decide
  have h3 : (("super" : Str) == PySem.Str.ofString "__class__") = false := by decide
  simp [xS2, List.lookup, h1, h2, h3, h4]
end
/-! a second attribute -/
section
open Builtin Builtin.ObjectAttr
variable {prog : Program} {w : World} {A : Around} {E : Value → Shared → Prop} {R : Result → Shared → Prop} {hp : Heap} {g : Array GenState} {d : Drawn} {t : Nat} {os : OsState}
theorem store_in_old {M : Model} {dx : Addr} {name : Str} {tk : Tok} {v : Value} {m : Str → Option Value} {ns : List Str} {Q : Fin → Shared → Prop} (hnd : hp.Ns1 dx m) (hw : Within m ns) (hl : ns.length ≤ 10)
    (hq : ∀ h' tk', h'.Ns1 dx (fun y => if y = name then some v else m y) → Heap.SameBut dx hp h' → Q (.done (.ret .none)) ⟨h', g, d, tk', os⟩) :
    wpAny M A (storeInDict dx (.str name tk) name v) Q E ⟨hp, g, d, t, os⟩ := by
  unfold storeInDict newKeyGuard
  refine wpAny_bind (wpAny_pure (wpAny_bind (wpAny_nsSet1 hnd fun h' hn' hs => ?_)))
  obtain ⟨oD, esD, epD, hoD, hdD, hcD⟩ := hn'.count (Within.cons name v hw)
  refine wpAny_bind (wpAny_lookBehind hoD (by rw [hdD]; exact pastItsLine_dict (Nat.le_trans hcD (by rw [List.length_cons, sizeLine_eq]; omega))) ?_)
  wp_walk
  exact hq h' _ hn' hs
theorem exc_osa2 {K : W.Frag} {name : Str} {tk : Tok} {v : Value} {x C dx : Addr} {fv : Array Value} {cd : ClassData} {m : Str → Option Value} {ns : List Str}
    (X : K.In hp) (hx : hp.get? x = some { cls := .ref C, dict := some dx, data := .fields fv }) (hdx : dx ≠ x) (hnd : hp.Ns1 dx m) (hw : Within m ns) (hl : ns.length ≤ 10) (hcd : W.clsIn K C = some cd) (hm : refsVE cd.mro = true) (hh : cd.hasDict = true) (ha : W.findIn K (.ref C) name = some none)
    (hq : ∀ h' tk', (∀ b o, b ≠ dx → hp.get? b = some o → h'.get? b = some o) → h'.Ns1 dx (fun y => if y = name then some v else m y) → R (.ok (.ret .none)) ⟨h', g, d, tk', os⟩) :
    codeAny (model prog w) A (.call (.builtin "object.__setattr__") ⟨[.ref x, .str name tk, v], []⟩) R ⟨hp, g, d, t, os⟩ := by
  obtain ⟨oD0, esD0, epD0, hoD0, hdD0, hrD0⟩ := id hnd
  have I : PySem.W.InstAt hp x { cls := .ref C, dict := some dx, data := .fields fv } C (some oD0) := ⟨hx, rfl, rfl, hoD0⟩
  have SF := F.store_object
  have ne := refsVE_ne hm
  have hob : cd.mro.contains (.type "object") = true := (refsVE_contains "object" _ hm).trans (by decide +kernel)
  have sub : W.Looks (model prog w) hp (isInstance (.ref x) (.type "object")) true := I.type.andThen (W.looks_mroIn X (by unfold W.mroIn; rw [hcd, Option.bind_some, if_neg (by rw [ne]; decide), hob]))
  refine codeAny_call_builtin SF.slot.plain SF.entry (@W.check_slot (model prog w) _ _ ⟨hp, g, d, t, os⟩ "object.__setattr__" "object" "__setattr__" (.ref x) [.str name tk, v] [] _ SF.kind SF.split sub (SF.args (.ref x) (.str name tk) v) ?_)
  have hmr : W.Looks (model prog w) hp (mroOf (.ref C)) cd.mro := (W.looks_clsIn X hcd).andThen .now
  have L3 : W.Looks (model prog w) hp (storeTaker? none) none := .now
  have hcls : W.Looks (model prog w) hp (classData C) cd := W.looks_clsIn X hcd
  rw [W.osa_eq, refuse_eq]
  refine wpAny_bind (wpAny_bind (I.type.at (wpAny_bind (hmr.at ?_))))
  rw [refsVE_pass _ _ hm]
  refine wpAny_pure (wpAny_bind (I.type.at (wpAny_bind ((W.looks_findIn X ha).at (wpAny_bind (L3.at ?_))))))
  show wpAny _ _ (storeInOwnDict (.ref x) (.ref C) (.str name tk) name v false) _ _ _
  obtain ⟨nm, bs, mro, ns', qn, hd, sn, sb, ab, col, del⟩ := cd
  dsimp only at hh
  subst hh
  unfold storeInOwnDict ownDictForStores
  repeat (first | with_reducible refine store_in_old hnd hw hl ?_ | with_reducible refine wpAny_loadPart_at hx ?_ | with_reducible refine hcls.at ?_ | wp_step)
  intro h' tk' hn' hs
  exact hq h' tk' (fun b o hb ho => (hs.2 b hb).trans ho) hn'
end
/-- what __init__ leaves of a fresh exception at x -/
structure InitEnd2 (h h' : Heap) (x C dx t1 : Addr) (f g : Str) (v u : Value) : Prop where
  keep : ∀ b o, b ≠ x → h.get? b = some o → h'.get? b = some o
  obj : h'.get? x = some { cls := .ref C, dict := some dx, data := .fields #[.ref t1, .none, .none, .none, .bool false, .none] }
  dbig : h.objs.size ≤ dx
  dne : dx ≠ x
  ns : h'.Ns1 dx (fun y => if y = g then some u else if y = f then some v else none)
/-- a made exception -/
structure OwnMade2 (h h' : Heap) (e C d : Addr) (f g : Str) (v u : Value) : Prop where
  keep : ∀ b o, h.get? b = some o → h'.get? b = some o
  new : h.objs.size ≤ e
  obj : ∃ oe vs, h'.get? e = some oe ∧ oe.cls = .ref C ∧ oe.dict = some d ∧ oe.data = .fields vs ∧ vs[1]? = some .none
  dbig : h.objs.size ≤ d
  dne : d ≠ e
  ns : h'.Ns1 d (fun y => if y = g then some u else if y = f then some v else none)
section
variable {prog : Program} {w : World} {A : Around} {E : Value → Shared → Prop} {R : Result → Shared → Prop} {s : Shared} {K : Frag} {mg mb : Str → Option Value} {x0 f g2 : Str} {C : Addr}
theorem two_size (v u : Value) : [v, u].length ≤ sizeLine := by
  rw [sizeLine_eq]
  exact (by decide : 2 ≤ 16777216)
theorem fx_init2 (T : XC2 K prog x0 f g2 C) {fI : Addr} (hfI : findIn K (.ref C) "__init__" = some (some (.ref fI))) {x t0 : Addr} {v u : Value} (X : K.In s.heap) (G : s.heap.Ns mainGlobals mg) (hsu : mg "super" = none) (B : s.heap.Ns builtinsNs mb) (hsb : mb "super" = bootBuiltins "super")
    (hlim : s.heap.NoLimit) (hx : s.heap.get? x = some (excO C t0)) (hnx : K.lookup x = none) (hroom : A.depth < recursionLimit)
    (hq : ∀ h' tk dx t1, InitEnd2 s.heap h' x C dx t1 f g2 v u → R (.ok (.ret .none)) { s with heap := h', toks := tk }) :
    codeAny (model prog w) A (.call (.ref fI) ⟨[.ref x, v, u], []⟩) R s := by
  obtain ⟨fI', e1, htI, qual, m, oc, od, kV, doc, pm, an, cda, cc, ct, osl, p1, p2, p3, q1, q2, q3, q4, q5, q6, q7, q8, q9, q10, r1, r2, r3, r4, ccl, cdd, vs, ccs, tf, cl, cld, csl, ho, hcd, hcode, hvs, hcell, hps⟩ := T.init
  rw [hfI] at e1
  cases e1
  obtain ⟨nm, q, N, bs, bm, sn, sub, ab, col, dd, k0, k1, k2, k3, k5, hC, hbm, hal⟩ := T.cls
  have hcl : clsIn K C = some { name := nm, bases := bs, mro := .ref C :: bm, ns := N, qualname := q, hasDict := true, slotNames := sn, subclasses := sub, abstract := ab, collection := col, hasDel := false } := by unfold clsIn; rw [hC] <;> rfl
  refine ks_codeAny_call_defAt (fd := ksFn "__init__" qual (xA2 f g2 p1 p2 p3) (xB2 f g2 m q1 q2 q3 q4 q5 q6 q7 q8 q9 q10 r1 r2 r3 r4) (xS2 f g2) .none kV doc pm an (.ref cda) ct cc) (body := xB2 f g2 m q1 q2 q3 q4 q5 q6 q7 q8 q9 q10 r1 r2 r3 r4) (binds := [("self", .ref x), (f, v), (g2, u)]) hroom (X _ _ ho) rfl hlim (codeRec_of X hcd) rfl
    (BindsTo.of_eq (T.bd _ p1 p2 p3 rfl rfl _ _ _)) ?_ ?_ (fun h₁ hns k => ?_)
  · intro y hy
    simp only [xS2, List.mem_cons, List.not_mem_nil, or_false] at hy
    rcases hy with rfl | rfl | rfl | rfl | rfl <;> simp
  · intro y hy
    simp only [List.mem_cons, List.not_mem_nil, or_false] at hy
    rcases hy with rfl | rfl | rfl
    · exact look2_self T.fo T.go T.ne
    · exact look2_f T.fo T.go T.ne
    · exact look2_g T.fo T.go T.ne
  · have X1 : K.In h₁ := X.keeps k
    have hx1 := k _ _ hx
    have hC1 := X1 _ _ hC
    refine ks_wpAt_execs_cons (ks_wpAt_Expr_any (ks_wpAt_MethodCall ?_ (he_sup hps)))
    refine ks_wpAt_super_base (look2_sup T.fo T.go T.ne) (look2_cls T.fo T.go T.ne) (by decide) rfl (X1 _ _ ho) rfl rfl rfl (X1 _ _ hcode) rfl hvs (by simp) T.top ?_
    refine ks_loadName_global rfl (look2_sup T.fo T.go T.ne) (loadGlobal_builtin (G.keeps k) hsu (B.keeps k) (hsb.trans boot_super) ⟨rfl, ?_⟩)
    refine wpAny_loadName_free rfl (look2_cls T.fo T.go T.ne) rfl ⟨_, X1 _ _ hcell, rfl⟩ ?_
    have h1 : (("self" : Str) == f) = false := by simpa using (Ne.symm T.fo.ns)
    have h1g : (("self" : Str) == g2) = false := by simpa using (Ne.symm T.go.ns)
    refine wpAny_loadName_local rfl (look2_self T.fo T.go T.ne) hns (v := .ref x) ?_ ?_
    · simp [List.lookup, h1, h1g]
    refine ks_wpAny_isType_cls hC1 rfl ⟨rfl, ?_⟩
    have hsub : mroIn K C (.ref C) = some true := by
      unfold mroIn
      rw [hcl]
      simp
    refine ks_wpAny_call_super hC1 rfl hx1 rfl (fun c e => by cases e) (looks_mroIn X1 hsub) (fun h2 hso k2 => ?_)
    have X2 : K.In h2 := X1.keeps k2
    have hx2 := k2 _ _ hx1
    have hxC : x ≠ C := fun e => by
      rw [e, hC1] at hx1
      cases hx1
    have I2 : InstAt h2 x (excO C t0) C none := ⟨hx2, rfl, rfl, trivial⟩
    refine kxs_getMethod kxs_ValueError hso (looks_opaque X2 T.op) (l₀ := .ref C :: bm) ?_ (ESX.drop_own C bm) X2 hal (I2.type.andThen (looks_subIn X2 T.veC)) hxC (by decide) ?_
    · exact fun A Q E s k q => wpAny_bind ((looks_clsIn X2 hcl) A _ E s k (wpAny_pure q))
    have kp : ∀ b o, h2.get? b = some o → (h2.push (kxs_mw "ValueError.__init__" x)).get? b = some o := fun b o e => Heap.get?_push_of_some _ e
    have hu : (h2.push (kxs_mw "ValueError.__init__" x)).get? h2.objs.size = some (kxs_mw "ValueError.__init__" x) := Heap.get?_push_at rfl rfl
    refine kxs_callWith (i := "ValueError.__init__") (x := x) rfl (evalArgs_plain (spliced_cons (Constant_str (k := 0) (pos := q4) (spliced_nil ⟨hu, ?_⟩))))
    refine call_mw (kp _ _ (X2 _ _ hC)) (kp _ _ hx2) hu (one_size _) (fun h3 t1 k3 hx3 => ?_)
    have kk : ∀ b o, b ≠ x → h₁.get? b = some o → h3.get? b = some o := fun b o hb e => k3 b o hb (kp _ _ (k2 _ _ e))
    have X3 : K.In h3 := fun a o e => kk a o (fun z => by rw [z, hnx] at e; cases e) (X1 a o e)
    have nL : s.heap.objs.size ≠ x := Nat.ne_of_gt (Heap.lt_size hx)
    have hns3 : h3.Ns s.heap.objs.size (fun y => [(("self" : Str), Value.ref x), (f, v), (g2, u)].reverse.lookup y) := by
      obtain ⟨oL, es, ep, hL, r⟩ := hns
      exact ⟨oL, es, ep, kk _ _ nL hL, r⟩
    have hfg : (f == g2) = false := by simpa using T.ne
    show PySem.wpAt _ _ _ (execs _ _) _ _ _
    refine ks_wpAt_execs_cons (ks_wpAt_Assign_Attr (PySem.wpAt_of_wpAny ?_))
    refine wpAny_Name (wpAny_loadName_local rfl (look2_f T.fo T.go T.ne) hns3 (v := v) (by simp [List.lookup, hfg]) ?_) T.fo.nd
    refine wpAny_Name (wpAny_loadName_local rfl (look2_self T.fo T.go T.ne) hns3 (v := .ref x) (by simp [List.lookup, h1, h1g]) ?_) (by decide)
    refine set_plain X3 (ox := excO C t1) (od := none) ⟨hx3, rfl, rfl, trivial⟩ T.sa ?_
    refine exc_osa X3 hx3 hcl (show refsVE (.ref C :: bm) = true from hbm) rfl T.noF (fun h4 tk4 dx k4 dn dne hx4 hn4 => ?_)
    have X4 : K.In h4 := fun a o e => k4 a o (fun z => by rw [z, hnx] at e; cases e) (X3 a o e)
    have dxL : s.heap.objs.size < dx := Nat.lt_of_lt_of_le hns3.lt dn
    have hns4 : h4.Ns s.heap.objs.size (fun y => [(("self" : Str), Value.ref x), (f, v), (g2, u)].reverse.lookup y) := by
      obtain ⟨oL, es, ep, hL, r⟩ := hns3
      exact ⟨oL, es, ep, k4 _ _ nL hL, r⟩
    show PySem.wpAt _ _ _ (execs _ _) _ _ _
    refine ks_wpAt_execs_cons (ks_wpAt_Assign_Attr (PySem.wpAt_of_wpAny ?_))
    refine wpAny_Name (wpAny_loadName_local rfl (look2_g T.fo T.go T.ne) hns4 (v := u) (by simp [List.lookup]) ?_) T.go.nd
    refine wpAny_Name (wpAny_loadName_local rfl (look2_self T.fo T.go T.ne) hns4 (v := .ref x) (by simp [List.lookup, h1, h1g]) ?_) (by decide)
    obtain ⟨oD, esD, epD, hoD, hrD⟩ := id hn4
    refine set_plain X4 (ox := { cls := .ref C, dict := some dx, data := .fields #[.ref t1, .none, .none, .none, .bool false, .none] }) (od := some oD) ⟨hx4, rfl, rfl, hoD⟩ T.sa ?_
    refine exc_osa2 X4 hx4 dne hn4 (ns := [f]) (Within.cons f v Within.nil) (show 1 ≤ 10 by decide) hcl (show refsVE (.ref C :: bm) = true from hbm) rfl T.noG (fun h5 tk5 k5' hn5 => ?_)
    show PySem.wpAt _ _ _ (execs _ _) _ _ _
    refine PySem.wpAt_of_wpAny (wpAny_execs_nil (hq h5 tk5 dx t1 ⟨fun b o hb e => k5' b o ?_ (k4 b o hb (kk b o hb (k b o e))), k5' x _ (Ne.symm dne) hx4, ?_, dne, hn5⟩))
    · exact Nat.ne_of_lt (Nat.lt_trans (Heap.lt_size e) dxL)
    · exact Nat.le_of_lt dxL
theorem fx_made2 (T : XC2 K prog x0 f g2 C) {v u : Value} (X : K.In s.heap) (G : s.heap.Ns mainGlobals mg) (hsu : mg "super" = none) (B : s.heap.Ns builtinsNs mb) (hsb : mb "super" = bootBuiltins "super") (hlim : s.heap.NoLimit) (hroom : A.depth + 1 < recursionLimit)
    (hq : ∀ h' tk e d, OwnMade2 s.heap h' e C d f g2 v u → R (.ok (.ret (.ref e))) { s with heap := h', toks := tk }) :
    codeAny (model prog w) A (.call (.ref C) ⟨[v, u], []⟩) R s := by
  obtain ⟨fI, hfI, htI, _⟩ := T.init
  obtain ⟨nm, q, N, bs, bm, sn, sub, ab, col, dd, k0, k1, k2, k3, k5, hC, hbm, hal⟩ := T.cls
  obtain ⟨hp, g, dr, tk, os⟩ := s
  have k : ∀ b o, hp.get? b = some o → ((hp.push (kdv_tup [v, u])).push (excO C hp.objs.size)).get? b = some o := fun b o e => Heap.get?_push_of_some _ (Heap.get?_push_of_some _ e)
  have hget : ((hp.push (kdv_tup [v, u])).push (excO C hp.objs.size)).get? (hp.objs.size + 1) = some (excO C hp.objs.size) := by heap_get
  have hnx : K.lookup (hp.objs.size + 1) = none := by
    cases e : K.lookup (hp.objs.size + 1) with
    | none => rfl
    | some o =>
      have z : hp.get? (hp.objs.size + 1) = some o := X _ _ e
      exact absurd (Nat.lt_of_succ_lt (Heap.lt_size z)) (Nat.lt_irrefl _)
  refine call_own F.excBase_ValueError (fun X => refsVE_contains X bm hbm) (X _ _ hC) (looks_findIn X hfI) (fun self => bind_fn X self htI) (two_size v u) ?_
  refine fx_init2 (s := ⟨(hp.push (kdv_tup [v, u])).push (excO C hp.objs.size), g, dr, tk, os⟩) T hfI (X.keeps k) (G.keeps k) hsu (B.keeps k) hsb (hlim.keeps k) hget hnx ?_ fun h' tk' dx t1 ⟨k', hx, dn, dne, hns⟩ => ?_
  · show A.depth + 1 < recursionLimit
    exact hroom
  · have old : ∀ b o, hp.get? b = some o → h'.get? b = some o := fun b o e => k' b o (Nat.ne_of_lt (Nat.lt_succ_of_lt (Heap.lt_size e))) (k b o e)
    have z : hp.objs.size + 1 + 1 ≤ dx := by
      first
        | (simpa only [Heap.size_push] using dn)
        | exact dn
        | (have q := dn; rw [Heap.size_push, Heap.size_push] at q; exact q)
    exact ⟨rfl, hq h' tk' (hp.objs.size + 1) dx ⟨old, Nat.le_succ _, ⟨_, _, hx, rfl, rfl, rfl, rfl⟩, Nat.le_trans (Nat.le_trans (Nat.le_succ _) (Nat.le_succ _)) z, dne, hns⟩⟩
end
end Fx
namespace Fx
open PySem PySem.Spec PyProof.Rows L2
theorem relO_fx2 {f g : Str} (ne : f ≠ g) {v u : V} {v' u' : Value} (r : RelV v v') (r2 : RelV u u') (y : Str) : RelO (List.lookup y [(f, v), (g, u)]) (if y = g then some u' else if y = f then some v' else none) := by
  by_cases hg : y = g
  · subst hg
    rw [if_pos rfl]
    have q0 : (y == f) = false := by simpa using (Ne.symm ne)
    have q : List.lookup y [(f, v), (y, u)] = some u := by simp [List.lookup, q0]
    rw [q]
    exact r2
  · rw [if_neg hg]
    have qg : (y == g) = false := by simpa using hg
    by_cases hw : y = f
    · subst hw
      rw [if_pos rfl]
      have q : List.lookup y [(y, v), (g, u)] = some v := by simp [List.lookup]
      rw [q]
      exact r
    · rw [if_neg hw]
      have qw : (y == f) = false := by simpa using hw
      have q2 : List.lookup y [(f, v), (g, u)] = none := by simp [List.lookup, qw, qg]
      rw [q2]
      trivial
section
variable {X : Cx} {C : Addr} {x0 f g2 : Str}
/-- C(e, e2) -/
def tMkFx2 (C : Addr) (f g : Str) (ta : TA) : L2.St → Hp → XK → Prop := fun σ H Q => ta σ H fun vs H1 => ∃ v u, vs = [v, u] ∧ ∀ d, H1 d = none → Q (.ref C) (some d) (upd H1 d (.xd [(f, v), (g, u)]))
theorem pmk_fx2 {a b : Expr} {ta : TA} {p pos : Pos} {k : Nat} (T : XC2 X.K X.prog x0 f g2 C) (gC : X.mg x0 = some (.ref C)) (hsu : X.mg "super" = none) (hr : Room k X.A) (ha : PA X [a, b] ta) (hg : Gl X x0 := by rfl) (hdb : (x0 == ("__debug__" : Str)) = false := by decide)
    (he : starEach (a :: [b]) X.env = (false, eval a X.env) :: starEach [b] X.env := by rfl) (hpl : (backTo pos (starEach [b] X.env)).any (·.1) = false := by rfl) :
    PMk X (.Call (.Name x0 p) [a, b] [] pos) (tMkFx2 C f g2 ta) := by
  intro pins s σ H Q I h
  refine wpAny_Call_Name_kw (ld_glob I hg gC ?_ hdb)
  refine PySem.W.callWith_K (h₀ := X.base) I.ok.mod.kin T.kC (thn (ha.run pos pins s σ H _ I h) fun us s1 hh => ?_) he hpl
  obtain ⟨vs, H1, I1, r1, v, u, ev, q1⟩ := hh
  subst ev
  refine ⟨I1.kIn, ?_⟩
  cases r1 with
  | cons rv rn =>
    rename_i v' us'
    cases rn with
    | cons ru rn =>
      rename_i u' us''
      cases rn
      show wpAny _ _ (call (.ref C) [v', u']) _ _ _
      have hlim := I1.nolimit
      obtain ⟨mb, hb1, hb2⟩ := I1.mod.blt
      have G := I1.mod.glob.keeps I1.bk
      have B := hb1.keeps I1.bk
      obtain ⟨hp, g, dr, tk, os⟩ := s1
      refine wpAny_call (fx_made2 T I1.kIn G hsu B (hb2 _ (by decide)) hlim (by have := hr.dp; omega) fun h' tk' e d M => ?_)
      show MkP X pins σ Q (.ref e) ⟨h', g, dr, tk', os⟩
      obtain ⟨oe, fv, hoe, hc, hd, hdat, h1⟩ := M.obj
      have hns := M.ns
      obtain ⟨G', g1, g2'⟩ := restrict h' fun b => decide (b ≠ e)
      have gk : ∀ b, b ≠ e → G'.get? b = h'.get? b := fun b hb => g1 b (decide_eq_true hb)
      have ge : G'.get? e = none := g2' e (by simp)
      have old : ∀ b o, hp.get? b = some o → G'.get? b = some o := fun b o q => (gk b (Nat.ne_of_lt (Nat.lt_of_lt_of_le (Heap.lt_size q) M.new))).trans (M.keep b o q)
      have ob : ObjOk X.prog X.w (upd H1 d (.xd [(f, v), (g2, u)])) G' d (.xd [(f, v), (g2, u)]) :=
        ⟨_, hns.at (fun o q => (gk d M.dne).trans q), fun y => relO_fx2 T.ne rv ru y⟩
      have J : Inv X pins σ (upd H1 d (.xd [(f, v), (g2, u)])) ⟨G', g, dr, tk', os⟩ := I1.laid (t' := tk') old M.dbig ob
      refine ⟨e, oe, fv, ⟨G', g, dr, tk', os⟩, _, .ref C, some d, rfl, J, fun b o q => ?_, ge, hoe, ⟨hc, hd⟩, hdat, h1, ?_, rfl, I1.bare, raises_own T.exC T.tyC, q1 d (I1.hok.fresh M.dbig)⟩
      · by_cases hb : b = e
        · have q' : G'.get? b = some o := q
          rw [hb, ge] at q'; cases q'
        · exact (gk b hb).symm.trans q
      · rw [upd_ne (Ne.symm M.dne)]
        exact I1.hok.fresh M.new
/-- raise C(e, e2) -/
def tRaiseFx2 (C : Addr) (f g : Str) (W : WX) (ta : TA) : TS := fun _ σ H => tMkFx2 C f g ta σ H fun cls d H' => W cls d σ H'
theorem ps_raiseFx2 {a b : Expr} {ta : TA} {W : WX} {p pos pos2 : Pos} {k : Nat} (hc : X.calm = true) (T : XC2 X.K X.prog x0 f g2 C) (gC : X.mg x0 = some (.ref C)) (hsu : X.mg "super" = none) (hr : Room k X.A) (tk : Takes X W) (ha : PA X [a, b] ta) (hg : Gl X x0 := by rfl) (hdb : (x0 == ("__debug__" : Str)) = false := by decide)
    (he : starEach (a :: [b]) X.env = (false, eval a X.env) :: starEach [b] X.env := by rfl) (hpl : (backTo pos (starEach [b] X.env)).any (·.1) = false := by rfl) :
    PS X (.Raise (some (.Call (.Name x0 p) [a, b] [] pos)) none pos2) (tRaiseFx2 C f g2 W ta) := ps_raise hc tk (pmk_fx2 T gC hsu hr ha hg hdb he hpl)
theorem XC2.xfc {K : PySem.W.Frag} {P : Program} {x f g : Str} {C : Addr} (T : XC2 K P x f g C) : XfC K C := ⟨T.ga, T.gg, T.exC, T.hdC⟩
end
end Fx
namespace FxH
open PySem PySem.Spec PyProof.Rows L2 He
/-- the class's facts, from the hook -/
theorem InD.xc2 {P : Program} {K : PySem.W.Frag} {d : InD} {m g : Str} {p1 p2 p3 q1 q2 q3 q4 q5 q6 q7 q8 q9 q10 r1 r2 r3 r4 : Pos} (e : fnXo K d.x = d.val) (c : d.ok (P.main.file : Str) K = true) (fo : Fx.FOk d.f) (go : Fx.FOk g) (ne : d.f ≠ g) (hg : eqO (PySem.W.findIn K (.ref (ga K d.x)) g) (some none) = true)
    (hA : defArgs d.st = Fx.xA2 d.f g p1 p2 p3) (hB : defBody d.st = Fx.xB2 d.f g m q1 q2 q3 q4 q5 q6 q7 q8 q9 q10 r1 r2 r3 r4) (hS : defScope d.st = Fx.xS2 d.f g) (hp : (q3.endLine == q5.line) = true)
    (bd : ∀ (fd : FuncData) (p1 p2 p3 : Pos), fd.params = Fx.xA2 d.f g p1 p2 p3 → fd.defaults = .none → ∀ (u1 u2 u3 : Value), bindArgs fd ⟨[u1, u2, u3], []⟩ = pure [(("self" : Str), u1), (d.f, u2), (g, u3)])
    (top : (P.main.scope.names.lookup ("super" : Str)).isSome = false) : Fx.XC2 K P d.x d.f g (ga K d.x) := by
  obtain ⟨c0, c⟩ := ba c
  obtain ⟨c1, c⟩ := ba c
  obtain ⟨c2, c⟩ := ba c
  obtain ⟨c3, c⟩ := ba c
  obtain ⟨c4, c⟩ := ba c
  obtain ⟨c5, c⟩ := ba c
  obtain ⟨c6, c⟩ := ba c
  obtain ⟨c7, c⟩ := ba c
  obtain ⟨c8, c⟩ := ba c
  obtain ⟨c9, c⟩ := ba c
  obtain ⟨c10, c⟩ := ba c
  obtain ⟨c11, c⟩ := ba c
  obtain ⟨c12, c⟩ := ba c
  obtain ⟨c13, c14⟩ := ba c
  refine ⟨fo, go, ne, clsB_ok c1, eqO_ok c2, eqO_ok c3, eqO_ok c4, eqO_ok c5, eqO_ok hg, c6, of_decide_eq_true c7, of_decide_eq_true c8, of_decide_eq_true c9, c10, eqO_ok c11, ⟨_, eqO_ok c12, of_decide_eq_true c13, ?_⟩, bd, top⟩
  unfold iniB at c14
  unfold fnXo at e
  cases q : K.lookup (ma K (ga K d.x) "__init__") with
  | none =>
    rw [q] at c14
    cases c14
  | some o =>
    obtain ⟨oc, od, dt, osl⟩ := o
    rw [q] at c14 e
    cases dt with
    | func fd =>
      obtain ⟨n1, n2, n3, n4, n5, n6, n7, n8, n9, n10, n11, n12, n13, n14, n15⟩ := fd
      have e2 : (some (n1, n2, n3, n4, n5, n6, n7.map (·.1), n8, n15) : FnX) = some (("__init__" : Str), d.qual, defArgs d.st, FuncBody.stmts (defBody d.st), defScope d.st, mainGlobals, [("__class__" : Str)], Value.none, builtinsNs) := e
      simp only [Option.some.injEq, Prod.mk.injEq] at e2
      obtain ⟨h1, h2, h3, h4, h5, h6, h7, h8, h9⟩ := e2
      subst h1 h2 h3 h4 h5 h6 h8 h9
      dsimp only at c14
      cases n7 with
      | nil => cases h7
      | cons a n7 =>
        cases n7 with
        | cons b n7 =>
          have z := congrArg List.length h7
          simp at z
        | nil =>
          obtain ⟨nm, cc⟩ := a
          have h7' : nm = ("__class__" : Str) := by
            have z := List.cons.inj h7
            exact z.1
          subst h7'
          cases n13 with
          | ref cda =>
            dsimp only at c14
            obtain ⟨d1, d2⟩ := ba c14
            obtain ⟨d3, d4⟩ := ba d2
            split at d3
            · rename_i ccl cdd vs ccs hl
              split at d3
              · rename_i n tf hvs
                have en : n = (P.main.file : Str) := of_decide_eq_true d3
                subst en
                split at d4
                · rename_i cl cld D csl hcell
                  have eD : D = ga K d.x := of_decide_eq_true d4
                  subst eD
                  refine ⟨d.qual, m, oc, od, n9, n10, n11, n12, cda, cc, n14, osl, p1, p2, p3, q1, q2, q3, q4, q5, q6, q7, q8, q9, q10, r1, r2, r3, r4, ccl, cdd, vs, ccs, tf, cl, cld, csl, ?_, d1, hl, hvs, hcell, hp⟩
                  rw [hA, hB, hS]
                · cases d4
              · cases d3
            · cases d3
          | _ => cases c14
    | _ => cases c14
end FxH
/-! A dict display with more than 17 pairs: the first seventeen are stored one by one, the others make a dict that is merged -/
namespace PySem
open Sem (wp)
section
variable {prog : Program} {w : World} {K : Type} [DecidableEq K] {knd : KeyKind prog w K} {A : Around} {E : Value → Shared → Prop} {s : Shared}
theorem fx_dictPut {d : Addr} {kvs : List (K × Value)} {k : K} {key v : Value} {Q : Unit → Shared → Prop} (hkey : knd.is k key = true) (hm : s.heap.DictOf knd d kvs)
    (hQ : ∀ h', h'.DictOf knd d (stored kvs k v) → Heap.SameBut d s.heap h' → Q () { s with heap := h' })
    (hsz : kvs.length ≤ sizeLine) :
    wpAny (model prog w) A (dictPut d (knd.hash k) key v) Q E s := by
  obtain ⟨o, es, ep, ho, hc, hd, hk, hp, hn⟩ := hm
  have hes : es.size ≤ sizeLine := by have e1 := hp.length; have e2 : es.toList.length = es.size := by simp
                                      omega
  unfold dictPut
  refine wpAny_bind (wpAny_dictFind_of hkey ho hd hk ?_)
  have hidx : (es.findIdx? fun e => knd.is k e.key) = kvs.findIdx? fun kv => decide (kv.1 = k) := by
    rw [← hp.findIdx k]; obtain ⟨l⟩ := es; simp
  cases hi : es.findIdx? fun e => knd.is k e.key with
  | some i =>
    refine wpAny_updateDict ho hd (hQ _ ⟨_, _, ep, Heap.get?_update_self _ ho (Obj.isFreed_of_dict (Obj.data_mapDict hd _)),
      hc.mapDict _, Obj.data_mapDict hd _, hk.modify _ _, ?_, ?_⟩ (Heap.SameBut.update ..))
    · rw [stored, if_pos (any_of_findIdx_some (hidx ▸ hi))]
      have hl : (es.toList.findIdx? fun e => knd.is k e.key) = some i := by rw [← hi]; obtain ⟨l⟩ := es; simp
      have := hp.modify hn hl v
      obtain ⟨l⟩ := es
      simpa using this
    · rw [stored, if_pos (any_of_findIdx_some (hidx ▸ hi)), keys_map_store]; exact hn
  | none =>
    have hnot : k ∉ kvs.map (·.1) := not_mem_of_findIdx_none (hidx ▸ hi)
    have hany : ¬ (kvs.any fun kv => decide (kv.1 = k)) = true := by
      rw [List.any_eq_true]; rintro ⟨kv, hkv, he⟩
      exact hnot (List.mem_map.mpr ⟨kv, hkv, of_decide_eq_true he⟩)
    refine wpAny_updateDictKeys (hz := hes) ho hd (hQ _ ⟨_, _, ep + 1, Heap.get?_update_self _ ho (Obj.isFreed_of_dict (Obj.data_mapDictKeys hd _)),
      hc.mapDictKeys _, Obj.data_mapDictKeys hd _, hk.push hkey _, ?_, ?_⟩ (Heap.SameBut.update ..))
    · rw [stored, if_neg hany]
      have := hp.append hkey (knd.hash k) v
      obtain ⟨l⟩ := es
      simpa using this
    · rw [stored, if_neg hany, List.map_append, List.nodup_append]
      refine ⟨hn, by simp, ?_⟩
      intro a ha b hb
      simp only [List.map_cons, List.map_nil, List.mem_singleton] at hb
      subst hb
      exact fun e => hnot (e ▸ ha)
theorem fx_merge {d o : Addr} {kvs more : List (K × Value)} {Q : Unit → Shared → Prop} (hdo : d ≠ o) (hoS : (o == sysModules) = false)
    (hd : s.heap.DictOf knd d kvs) (ho : s.heap.DictOf knd o more) (hne : kvs ≠ [])
    (hQ : ∀ h', h'.DictOf knd d (merged kvs more) → Heap.SameBut d s.heap h' → Q () { s with heap := h' })
    (hsz : kvs.length + more.length ≤ sizeLine) :
    wpAny (model prog w) A (mergeMapping d (.ref o) false) Q E s := by
  obtain ⟨od, esd, epd, hod, hcd, hdd, hkd, hpd, hnd⟩ := id hd
  obtain ⟨oo, eso, epo, hoo, hco, hdo', hko, hpo, hno⟩ := id ho
  have hlen : more.length = eso.size := by rw [← hpo.length]; simp
  have hemp : esd.isEmpty = false := by
    have := hpd.length
    cases kvs with
    | nil => exact absurd rfl hne
    | cons a r =>
      cases e : esd.isEmpty with
      | false => rfl
      | true =>
        rw [Array.isEmpty_iff.mp e] at this
        cases this
  have loop : wpAny (model prog w) A (do
      let l ← dictEntries o
      let epoch ← dictEpoch o
      forIn (List.range l.size) PUnit.unit fun i (_ : PUnit) => (do
          let l' ← dictEntries o
          match l'[i]? with
            | some e => do
              holding [e.key, e.val] (dictPut d e.hash e.key e.val)
              let ep' ← dictEpoch o
              if (ep' != epoch) = true then do
                  (unsupported "dict.changed-during-merge" : Sem PUnit)
                  pure (ForInStep.yield PUnit.unit)
                else pure (ForInStep.yield PUnit.unit)
            | _ => do
              (unsupported "dict.changed-during-merge" : Sem PUnit)
              pure (ForInStep.yield PUnit.unit) : Sem (ForInStep PUnit))
      pure ()) Q E s := by
    refine wpAny_bind (wpAny_dictEntries hoo hdo' ?_)
    refine wpAny_bind (wpAny_dictEpoch hoo hdo' ?_)
    refine wpAny_bind ?_
    rw [List.range_eq_range']
    refine wpAny_forIn_list _
      (fun rest _ s' => ∃ h' i, s' = { s with heap := h' } ∧ rest = List.range' i (eso.size - i) ∧ i ≤ eso.size ∧ h'.DictOf knd d (merged kvs (more.take i)) ∧ h'.get? o = some oo ∧ Heap.SameBut d s.heap h')
      _ ?_ ?_ _ _ ⟨s.heap, 0, rfl, by simp, Nat.zero_le _, by simpa [merged] using hd, hoo, Heap.SameBut.refl _ _⟩
    · rintro x rest b s' ⟨h', i, rfl, hr, hi, hd', hoo', hs'⟩
      have hlt : i < eso.size := by
        rcases Nat.lt_or_ge i eso.size with h | h
        · exact h
        · rw [Nat.sub_eq_zero_of_le h] at hr; simp at hr
      obtain ⟨rfl, hrest⟩ : x = i ∧ rest = List.range' (i + 1) (eso.size - (i + 1)) := by
        have e : eso.size - i = (eso.size - (i + 1)) + 1 := by omega
        rw [e, List.range'_succ] at hr
        injection hr with h1 h2
        exact ⟨h1, h2⟩
      refine wpAny_bind (wpAny_dictEntries hoo' hdo' ?_)
      rw [Array.getElem?_eq_getElem hlt]
      obtain ⟨kv, hkv⟩ : ∃ kv, more[x]? = some kv := ⟨more[x]'(by rw [hlen]; exact hlt), List.getElem?_eq_getElem _⟩
      obtain ⟨k, v⟩ := kv
      obtain ⟨hkey, hval⟩ := hpo.get? (e := eso[x]) (by simp [hlt]) hkv
      obtain ⟨k', hkey', hhash⟩ := hko eso[x] (Array.getElem_mem hlt)
      obtain rfl : k' = k := knd.inj _ _ _ hkey' hkey
      show wpAny _ _ (holding [eso[x].key, eso[x].val] (dictPut d eso[x].hash eso[x].key eso[x].val) >>= _) _ _ _
      rw [hhash, hval]
      have hmx : (merged kvs (more.take x)).length ≤ sizeLine := by
        have e1 := merged_length_le kvs (more.take x)
        have e2 : (more.take x).length ≤ more.length := by rw [List.length_take]; omega
        omega
      refine wpAny_bind (wpAny_holding (fx_dictPut (hsz := hmx) hkey hd' fun h'' hd'' hs'' => ?_))
      have hoo'' : h''.get? o = some oo := (hs''.2 o (Ne.symm hdo)).trans hoo'
      refine wpAny_bind (wpAny_dictEpoch hoo'' hdo' ?_)
      rw [if_neg (by simp)]
      exact wpAny_pure ⟨h'', x + 1, rfl, hrest, hlt, by rw [merged_take_succ kvs more x (k', v) hkv]; exact hd'', hoo'', hs'.trans hs''⟩
    · rintro b s' ⟨h', i, rfl, hr, hi, hd', hoo', hs'⟩
      have hin : i = eso.size := by
        rcases Nat.lt_or_ge i eso.size with h | h
        · have e : eso.size - i = (eso.size - (i + 1)) + 1 := by omega
          rw [e, List.range'_succ] at hr; exact nomatch hr
        · exact Nat.le_antisymm hi h
      refine wpAny_pure (hQ h' ?_ hs')
      rw [hin, ← hlen, List.take_length] at hd'; exact hd'
  unfold mergeMapping
  refine wpAny_bind (wpAny_isInstance ho.typeIs isSubtype_dict_dict ?_)
  simp only [if_true, Bool.false_eq_true, if_false]
  refine wpAny_bind (wpAny_specialOf ho.typeIs F.slot_dict_iter.lookup ?_)
  refine wpAny_bind (wpAny_pure ?_)
  simp only [beq_self_eq_true]
  rw [if_neg (by rw [hoS]; exact Bool.false_ne_true)]
  refine wpAny_bind (wpAny_dictEntries hod hdd ?_)
  rw [hemp, if_neg Bool.false_ne_true]
  exact loop
theorem fx_subLong {pairs : List (Sem Value × Sem Value)} {Q : Addr → Shared → Prop} (hlen : ¬ pairs.length ≤ 15)
    (h : wpAny (model prog w) A (forIn pairs PUnit.unit fun (x : Sem Value × Sem Value) (_ : PUnit) => (do
        let kv ← x.1
        let vv ← holding [kv] x.2
        holding [kv, vv] (dictSet s.heap.objs.size kv vv)
        pure (ForInStep.yield PUnit.unit) : Sem (ForInStep PUnit))) (fun _ s' => Q s.heap.objs.size s') E { s with heap := s.heap.push { cls := .type "dict", data := .dict #[] } }) :
    wpAny (model prog w) A (subDict pairs) Q E s := by
  unfold subDict
  refine wpAny_bind (wpAny_alloc ?_)
  refine wpAny_bind (wpAny_holding ?_)
  rw [if_neg hlen]
  refine wpAny_bind (wpAny_rule ?_)
  exact wpAny_bind (wpAny_mono h (fun _ s' z => wpAny_pure (wpAny_pure z)) fun _ _ e => e)
theorem fx_gather (f : (Option (Sem Value) × Sem Value) → (Option Addr × List (Sem Value × Sem Value)) → Sem (ForInStep (Option Addr × List (Sem Value × Sem Value)))) (m : Option Addr)
    (hf : ∀ (p : Sem Value × Sem Value) (run : List (Sem Value × Sem Value)), run.length + 1 < 17 → f (some p.1, p.2) (m, run) = pure (.yield (m, run ++ [p]))) (rest : List (Option (Sem Value) × Sem Value)) :
    ∀ (items run : List (Sem Value × Sem Value)), run.length + items.length < 17 → forIn (items.map (fun p => (some p.1, p.2)) ++ rest) (m, run) f = forIn rest (m, run ++ items) f
  | [], run, _ => by simp
  | p :: ps, run, h => by
    rw [List.map_cons, List.cons_append, List.forIn_cons, hf p run (by simp at h; omega), pure_bind]
    have := fx_gather f m hf rest ps (run ++ [p]) (by simp at h ⊢; omega)
    simpa using this
theorem fx_display (p1 p2 : List (Sem Value × Sem Value)) (p : Sem Value × Sem Value) (h1 : p1.length = 16) (h2 : p2 ≠ []) (h3 : p2.length < 17) :
    dictDisplay (((p1 ++ [p]) ++ p2).map fun p => (some p.1, p.2)) = (do
      let d ← subDict (p1 ++ [p])
      let sub ← holding [.ref d] (subDict p2)
      (holding [.ref d, .ref sub] (mergeMapping d (.ref sub) false)).onRaise fun x => do let _ ← holding [.ref d, x] (runValue (.builtin "proto.let_go" {}))
      pure (.ref d)) := by
  unfold dictDisplay
  dsimp only
  rw [List.map_append, List.map_append, List.append_assoc, fx_gather _ none (fun p run h => by
    have hne : ((run ++ [(p.1, p.2)]).length == 17) = false := by simp; omega
    simp only [hne, Bool.false_eq_true, if_false]) _ p1 [] (by rw [h1]; decide)]
  rw [List.map_cons, List.map_nil, List.cons_append, List.nil_append, List.nil_append, List.forIn_cons]
  have hl : ((p1 ++ [(p.1, p.2)]).length == 17) = true := by simp [h1]
  have he : (p1 ++ [(p.1, p.2)]).isEmpty = false := by simp
  have he2 : p2.isEmpty = false := by cases p2 with
    | nil => exact absurd rfl h2
    | cons a r => rfl
  simp only [hl, he, if_true, Bool.false_eq_true, if_false, bind_assoc, pure_bind, map_eq_pure_bind]
  congr 1
  funext d
  rw [← List.append_nil (p2.map _), fx_gather _ (some d) (fun p run h => by
    have hne : ((run ++ [(p.1, p.2)]).length == 17) = false := by simp; omega
    simp only [hne, Bool.false_eq_true, if_false]) [] p2 [] (by simpa using h3)]
  simp only [List.forIn_nil, pure_bind, List.nil_append, he2, Bool.false_eq_true, if_false, bind_assoc]
  done
end
end PySem
namespace L2
open PySem PySem.Spec PyProof.Rows
/-- the pairs of a long display's first part: each is stored when it is made -/
def tLong : List (TE × TE) → St → Hp → Addr → (Hp → Prop) → Prop
  | [], _, H, _, Q => Q H
  | (tk, tv) :: r, σ, H, p, Q => tk σ H fun x H1 => tv σ H1 fun y H2 => ∃ (kvs : List (Key × V)) (k : Key), H2 p = some (.dK kvs) ∧ x = kV k ∧ kvs.length < 1000 ∧ tLong r σ (upd H2 p (.dK (putK kvs k y))) p Q
def storeB (d : Addr) : Sem Value × Sem Value → PUnit → Sem (ForInStep PUnit) := fun x _ => do
  let kv ← x.1
  let vv ← holding [kv] x.2
  holding [kv, vv] (dictSet d kv vv)
  pure (ForInStep.yield PUnit.unit)
structure PLs (X : Cx) (pos : Pos) (keys : List (Option Expr)) (values : List Expr) (trs : List (TE × TE)) : Prop where
  run : ∀ (pins : List (Addr × Obj)) (s : Shared) (σ : St) (H : Hp) (p : Addr) (Q : Hp → Prop), Inv X pins σ H s → tLong trs σ H p Q →
    wpAny (model X.prog X.w) X.A (forIn (pairTrees keys values X.env pos) PUnit.unit (storeB p)) (fun _ s' => ∃ H', Inv X pins σ H' s' ∧ Q H') X.xe s
theorem pls_nil {X : Cx} {pos : Pos} : PLs X pos [] [] [] := ⟨fun pins s σ H p Q I h => by
  show wpAny _ _ (forIn ([] : List (Sem Value × Sem Value)) PUnit.unit _) _ _ _
  rw [List.forIn_nil]
  exact wpAny_pure ⟨H, I, h⟩⟩
theorem pls_cons {X : Cx} {pos : Pos} {k v : Expr} {ks : List (Option Expr)} {vs : List Expr} {tk tv : TE} {trs : List (TE × TE)} (hk : PE X k tk) (hv : PE X v tv) (hr : PLs X pos ks vs trs) :
    PLs X pos (some k :: ks) (v :: vs) ((tk, tv) :: trs) := ⟨fun pins s σ H p Q I h => by
  show wpAny _ _ (forIn ((eval k X.env, (do let x ← eval v X.env; standAt pos; pure x)) :: pairTrees ks vs X.env pos) PUnit.unit (storeB p)) _ _ _
  rw [List.forIn_cons]
  refine wpAny_bind ?_
  unfold storeB
  refine wpAny_bind (thn (hk.run pins s σ H _ I h) fun u s1 ⟨x, H1, I1, rx, q1⟩ => ?_)
  refine wpAny_bind (wpAny_holding (wpAny_bind (thn (hv.run pins s1 σ H1 _ I1 q1) fun u2 s2 ⟨y, H2, I2, ry, kvs, kk, e, ex, lk, q2⟩ => wpAny_bind (wpAny_standAt (wpAny_pure ?_)))))
  subst ex
  obtain ⟨z, hd, vs0, rel, dd⟩ := dk_of I2.hok e
  have hz : vs0.length ≤ sizeLine := by rw [← rel.length]; exact z
  have hl : (putK kvs kk y).length ≤ sizeLine := by have := length_putK kvs kk y; rw [sizeLine_eq]; omega
  refine wpAny_bind (wpAny_holding (wpAny_dictSet_pairs (knd := mixKind X.prog X.w) (hsz := hz) (kV_is rx) dd fun h' dd' hs => ?_))
  refine wpAny_pure ?_
  have he : ∃ q, h'.get? p = some q := let ⟨q, _, _, hq, _⟩ := dd'; ⟨q, hq⟩
  have I3 := d_write (t' := s2.toks + 1) I2 (by rw [e]; exact True.intro) hs he (dk_new (H' := upd H2 p (.dK (putK kvs kk y))) hl hd (rel.put kk ry) dd')
  exact hr.run pins _ σ _ p Q I3 q2⟩
/-- {k: v, ..} of 18 to 32 pairs: trs: the first seventeen, trs2: the others -/
def tDispL (trs trs2 : List (TE × TE)) : TE := fun σ H Q => ∀ p, H p = none → tLong trs σ (upd H p (.dK [])) p fun H1 => ∃ kvs1, H1 p = some (.dK kvs1) ∧ kvs1 ≠ [] ∧ kvs1.length ≤ 1000 ∧ ∀ q, H1 q = none → tPairs trs2 σ (upd H1 q (.dK [])) fun ps H2 =>
  H2 q = some (.dK []) ∧ H2 p = some (.dK kvs1) ∧ ∃ kvs : List (Key × V), ps = kvs.map (fun kv => (kV kv.1, kv.2)) ∧ kvs.length ≤ 15 ∧ Q (.ref p) (upd (upd H2 q (.dK (mergeK [] kvs))) p (.dK (mergeK kvs1 (mergeK [] kvs))))
theorem pairTrees_app {env : Env} {pos : Pos} : ∀ {ks : List (Option Expr)} {vs : List Expr} {ks2 : List (Option Expr)} {vs2 : List Expr}, ks.all (·.isSome) = true → ks.length = vs.length → pairTrees (ks ++ ks2) (vs ++ vs2) env pos = pairTrees ks vs env pos ++ pairTrees ks2 vs2 env pos
  | [], [], _, _, _, _ => rfl
  | [], _ :: _, _, _, _, h => by simp at h
  | _ :: _, [], _, _, _, h => by simp at h
  | none :: _, _ :: _, _, _, h, _ => by simp at h
  | some k :: ks, v :: vs, ks2, vs2, h, hl => by
    have h' : ks.all (·.isSome) = true := by simpa using h
    have hl' : ks.length = vs.length := by simpa using hl
    show _ :: pairTrees (ks ++ ks2) (vs ++ vs2) env pos = _ :: (pairTrees ks vs env pos ++ pairTrees ks2 vs2 env pos)
    rw [pairTrees_app h' hl']
theorem pe_dispL {X : Cx} {pos : Pos} {ks ks2 : List (Option Expr)} {vs vs2 : List Expr} {trs trs2 : List (TE × TE)} (h : PLs X pos ks vs trs) (h2 : PPs X pos ks2 vs2 trs2) (hall : (ks ++ ks2).all (·.isSome) = true) (hl1 : ks.length = vs.length) (hl2 : ks2.length = vs2.length)
    (h17 : ks.length = 17) (h0 : ks2 ≠ []) (h15 : ks2.length ≤ 15) : PE X (.Dict (ks ++ ks2) (vs ++ vs2) pos) (tDispL trs trs2) := by
  refine ⟨fun pins s σ H Q I q => ?_⟩
  rw [List.all_append, Bool.and_eq_true] at hall
  have hn := I.hok.fresh (Nat.le_refl s.heap.objs.size)
  have I1 := I.laid (a := s.heap.objs.size) (o := .dK []) (h' := s.heap.push { cls := .type "dict", data := .dict #[] }) (t' := s.toks) (fun _ _ q => Heap.get?_push_of_some _ q) (Nat.le_refl _) (dk_empty s.heap I.big)
  rw [arm_eval_Dict, zip_pairTrees _ _ _ _ (by rw [List.all_append, hall.1, hall.2]; rfl) (by rw [List.length_append, List.length_append, hl1, hl2]), pairTrees_app hall.1 hl1]
  have ln := pairTrees_length ks vs X.env pos hall.1 hl1
  have ln2 := pairTrees_length ks2 vs2 X.env pos hall.2 hl2
  obtain ⟨pp, pl, epp⟩ : ∃ pp pl, pairTrees ks vs X.env pos = pp ++ [pl] := by
    have : pairTrees ks vs X.env pos ≠ [] := fun e => by rw [e, h17] at ln; cases ln
    exact ⟨_, _, (List.dropLast_concat_getLast this).symm⟩
  have hp1 : pp.length = 16 := by
    rw [epp, List.length_append, h17, List.length_singleton] at ln
    omega
  have hne2 : pairTrees ks2 vs2 X.env pos ≠ [] := fun e => by
    rw [e] at ln2
    exact h0 (List.length_eq_zero_iff.mp ln2.symm)
  rw [epp, fx_display pp _ pl hp1 hne2 (by omega), ← epp]
  refine wpAny_bind (wpAny_standAt ?_)
  refine wpAny_bind (fx_subLong (by omega) ?_)
  refine thn (h.run pins _ σ _ _ _ I1 (q _ hn)) fun _ s1 ⟨H1, J1, kvs1, e1, hk0, hk1, q1⟩ => ?_
  refine wpAny_bind (wpAny_holding ?_)
  have hn2 := J1.hok.fresh (Nat.le_refl s1.heap.objs.size)
  have J2 := J1.laid (a := s1.heap.objs.size) (o := .dK []) (h' := s1.heap.push { cls := .type "dict", data := .dict #[] }) (t' := s1.toks) (fun _ _ q => Heap.get?_push_of_some _ q) (Nat.le_refl _) (dk_empty s1.heap J1.big)
  refine wpAny_subDict (knd := mixKind X.prog X.w) (by omega) (thn (h2.run pins _ σ _ _ J2 (q1 _ hn2)) fun ws s2 ⟨ps, H2, I2, rel, e2, ep, kvs, eps, lk, q2⟩ => ?_)
  subst eps
  obtain ⟨rs, c, rk⟩ := carries_of (P := X.prog) (w := X.w) rel
  obtain ⟨z, hd, vs0, r0, dd⟩ := dk_of I2.hok e2
  cases r0
  refine ⟨rs, c, dd, fun h' dd' hs => ?_⟩
  have hz : (mergeK [] kvs).length ≤ sizeLine := by
    have h1 := length_mergeK kvs []
    rw [List.length_nil] at h1
    rw [sizeLine_eq]; omega
  have he : ∃ q, h'.get? s1.heap.objs.size = some q := let ⟨q, _, _, hq, _⟩ := dd'; ⟨q, hq⟩
  have I3 := d_write (t' := s2.toks + ws.length) I2 (by rw [e2]; exact True.intro) hs he (dk_new (H' := upd H2 s1.heap.objs.size (.dK (mergeK [] kvs))) hz hd (rk.merge .nil) dd')
  have hne : s.heap.objs.size ≠ s1.heap.objs.size := ne_of_none e1 hn2
  have e3 : (upd H2 s1.heap.objs.size (.dK (mergeK [] kvs))) s.heap.objs.size = some (.dK kvs1) := by rw [upd_ne hne]; exact ep
  obtain ⟨z1, hd1, us1, r1, dd1⟩ := dk_of I3.hok e3
  have lr1 := r1.length
  have lr2 := (rk.merge .nil).length
  have lz : (mergeK kvs1 (mergeK [] kvs)).length ≤ sizeLine := by
    have h1 := length_mergeK (mergeK [] kvs) kvs1
    have h2 := length_mergeK kvs []
    rw [List.length_nil] at h2
    rw [sizeLine_eq]
    omega
  refine wpAny_bind (wpAny_onRaise (wpAny_holding (fx_merge (knd := mixKind X.prog X.w) hne hd dd1 dd' (fun e => ?_) (fun h'' dd'' hs'' => ?_) ?_)))
  · rw [e] at lr1
    exact hk0 (List.length_eq_zero_iff.mp lr1)
  · have he' : ∃ q, h''.get? s.heap.objs.size = some q := let ⟨q, _, _, hq, _⟩ := dd''; ⟨q, hq⟩
    have I4 := d_write (t' := s2.toks + ws.length) I3 (by rw [e3]; exact True.intro) hs'' he' (dk_new (H' := upd (upd H2 s1.heap.objs.size (.dK (mergeK [] kvs))) s.heap.objs.size (.dK (mergeK kvs1 (mergeK [] kvs)))) lz hd1 ((rk.merge .nil).merge r1) dd'')
    exact wpAny_pure ⟨.ref s.heap.objs.size, _, I4, rfl, q2⟩
  · have h2 := length_mergeK kvs []
    rw [List.length_nil] at h2
    rw [sizeLine_eq]
    omega
end L2
/-! word in D, D a written dict of the module with text keys -/
namespace Fx
open PySem PySem.Spec PyProof.Rows L2 He
theorem nsIn_mem {K : PySem.W.Frag} {w : World} {d : Addr} {es : Array DictEntry} {n : Nat} {ks : List Str} (D : KDict K w d es n) (e : es.toList.map He.keyOf = keysIn w.params ks) {z : Str} (h : z ∈ ks) : ∃ u, PySem.W.nsIn K d z = some (some u) := by
  unfold PySem.W.nsIn
  rw [D.at_]
  have key : ∀ (l : List DictEntry) (ks : List Str), l.map He.keyOf = keysIn w.params ks → z ∈ ks → ∃ a, l.find? (·.key.isStr z) = some a := by
    intro l
    induction l with
    | nil =>
      intro ks e h
      cases ks with
      | nil => cases h
      | cons k ks => cases e
    | cons a l ih =>
      intro ks e h
      cases ks with
      | nil => cases e
      | cons k ks =>
        have e2 : He.keyOf a :: l.map He.keyOf = some (k, PyData.keyHash w.params k) :: keysIn w.params ks := e
        injection e2 with h1 h2
        unfold He.keyOf at h1
        split at h1
        · rename_i x t q
          have h4 := (Prod.mk.inj (Option.some.inj h1)).1
          by_cases ex : x = z
          · exact ⟨a, List.find?_cons_of_pos (by rw [q]; simp [Value.isStr, ex])⟩
          · have hz : z ∈ ks := by
              rcases List.mem_cons.mp h with rfl | h
              · exact absurd h4 ex
              · exact h
            obtain ⟨b, hb⟩ := ih ks h2 hz
            refine ⟨b, ?_⟩
            rw [List.find?_cons_of_neg]
            · exact hb
            · rw [q]
              simp [Value.isStr, ex]
        · cases h1
  obtain ⟨a, ha⟩ := key _ _ e h
  refine ⟨a.val, ?_⟩
  show (match es.toList.find? (·.key.isStr z) with
      | some e => some (some e.val)
      | none => if es.toList.any (·.refKey) then none else some none) = some (some a.val)
  rw [ha]
/-- z in d -/
def rInK (K : PySem.W.Frag) (w : World) : R2 := fun x y H Q => ∃ (z : Str) (d : Addr) (ks : List Str), x = .str z ∧ y = .ref d ∧ KTab K w d ks ∧ Q (.bl (decide (z ∈ ks))) H
theorem op_inK {X : Cx} : OpR X (compareOp .In) (rInK X.K X.w) := by
  intro pins s σ H x y v u Q I rx ry h
  obtain ⟨z, d, ks, ex, ey, T, q⟩ := h
  obtain ⟨es, n, D, e⟩ := T.ex
  refine op_in_kd D pins s σ H x y v u Q I rx ry ?_
  by_cases m : z ∈ ks
  · obtain ⟨a, ha⟩ := nsIn_mem D e m
    rw [decide_eq_true m] at q
    exact ⟨z, some a, ex, ey, ha, q⟩
  · rw [decide_eq_false m] at q
    exact ⟨z, none, ex, ey, nsIn_none D e m, q⟩
theorem op_inKd {X : Cx} {K : PySem.W.Frag} {w : World} (hK : X.K = K) (hw : X.w = w) : OpR X (compareOp .In) (rInK K w) := by
  subst hK hw
  exact op_inK
end Fx
namespace Fx
open PySem PySem.Spec PyProof.Rows L2
/-- str(x), x an int or a text -/
def rStrC : List V → Hp → VK → Prop := fun xs H Q => (∃ i : Int, xs = [.int i] ∧ i.natAbs.log2 < 1920 ∧ Q (.str (toString i)) H) ∨ (∃ a : Str, xs = [.str a] ∧ Q (.str a) H)
theorem str_C {X : Cx} : CallR X (.type "str") rStrC := by
  intro pins s σ H xs us Q I r h
  rcases h with h | h
  · exact call_str_int pins s σ H xs us Q I r h
  · exact SkE.call_str_str pins s σ H xs us Q I r h
/-- a display of more than seventeen pairs -/
theorem pe_dispN {X : Cx} {pos : Pos} {keys : List (Option Expr)} {values : List Expr} {trs trs2 : List (TE × TE)} (h : PLs X pos (keys.take 17) (values.take 17) trs) (h2 : PPs X pos (keys.drop 17) (values.drop 17) trs2) (hall : keys.all (·.isSome) = true) (hl : keys.length = values.length)
    (h18 : 18 ≤ keys.length) (h32 : keys.length ≤ 32) : PE X (.Dict keys values pos) (tDispL trs trs2) := by
  have e1 := List.take_append_drop 17 keys
  have e2 := List.take_append_drop 17 values
  have := pe_dispL h h2 (by rw [e1]; exact hall) (by rw [List.length_take, List.length_take, hl]) (by rw [List.length_drop, List.length_drop, hl]) (by rw [List.length_take]; omega) (fun e => by
    have := congrArg List.length e
    rw [List.length_drop] at this
    have z : ([] : List (Option Expr)).length = 0 := rfl
    omega) (by rw [List.length_drop]; omega)
  rw [e1, e2] at this
  exact this
end Fx
namespace K39
open PySem PySem.Spec PyProof.Rows L2 Fx
def resW : List Str := (["mark", "number", "link", "text", "rule", "way", "count", "clock", "track", "row", "class", "thing", "routine", "action", "verb", "start", "player", "end", "say"] : List Str) ++
  (["line", "show", "name", "tell", "set", "aim", "put", "tie", "give", "strip", "move", "keep", "if", "else", "while", "each", "do", "return", "finish", "of"] : List Str) ++
  (["words", "has", "is", "get", "add", "sub", "mul", "div", "mod", "eq", "less", "and", "or", "not", "same", "in", "within", "doing", "parts", "load", "random"] : List Str) ++
  (["light", "call", "send", "pass", "nothing", "at", "holder", "first", "beside", "place", "toward", "self", "noun", "second", "actor", "value", "turns"] : List Str) ++
  (["open", "lit", "person", "hidden", "before", "after", "orders", "a", "b", "c", "d", "x", "y", "z"] : List Str)
def numForms : List (Str × List Str) := ([("is", ["integer"]), ("get", ["reading"]), ("add", ["N", "N"]), ("sub", ["N", "N"]), ("mul", ["N", "N"]), ("div", ["N", "N"]), ("mod", ["N", "N"]), ("eq", ["N", "N"]), ("less", ["N", "N"]), ("and", ["N", "N"]), ("or", ["N", "N"]), ("not", ["N"]), ("same", ["X", "X"]), ("in", ["X", "X"]), ("within", ["X", "X"])] : List (Str × List Str)) ++
  ([("has", ["X", "mark"]), ("doing", ["action"]), ("of", ["X", "number"]), ("parts", ["X"]), ("load", ["row", "N"]), ("random", ["chances"]), ("light", []), ("call", ["routine", "params", "forms"]), ("send", ["X", "rule"]), ("pass", [])] : List (Str × List Str))
def thForms : List (Str × List Str) := [("nothing", []), ("at", ["pointed"]), ("holder", ["X"]), ("first", ["X"]), ("beside", ["X"]), ("place", ["X"]), ("link", ["X", "link"]), ("toward", ["X", "N"])]
def knownT : List (Str × List Str) := [("mark", ["open", "lit", "person", "hidden"]), ("rule", ["before", "after", "orders"]), ("counter", ["a", "b", "c", "d"]), ("reading", ["a", "b", "c", "d", "value", "turns"]), ("pointer", ["x", "y", "z"]), ("pointed", ["x", "y", "z", "self", "noun", "second", "actor", "player"]), ("pointing", ["nothing"]), ("name", []), ("text", []), ("number", []), ("link", []), ("row", []), ("action", []), ("routine", [])]
def rangeK : List Str := ["size", "initial", "many", "integer", "rounds", "ending", "chances"]
def rangeV : List (Str × List V) := [("size", [.int 1, .int 30000]), ("initial", [.int 0, .int 29999]), ("many", [.int 1, .int 30]), ("integer", [.int 0, .int 999]), ("rounds", [.int 1, .int 50]), ("ending", [.int 1, .int 9]), ("chances", [.int 1, .int 100])]

def top (i : Nat) : Stmt := PySem.Challenge.pw_fablemill_k39_forms_written.main.body.getD i (.Pass ⟨0, 0, 0, 0⟩)
abbrev s_LineWords_MU_initU : Stmt := inClass (top 37) 0
abbrev N_LineWords_MU_initU : List Str := ["self", "number", "line"]
theorem sc_LineWords_MU_initU : FnScope N_LineWords_MU_initU ["self", "number", "line"] (defScope s_LineWords_MU_initU) := ⟨rfl, rfl, rfl, by decide +kernel, rfl, by decide +kernel, by decide +kernel⟩
theorem bn_LineWords_MU_initU : BindQ "__init__" "LineWords.__init__" s_LineWords_MU_initU ["self", "number", "line"] := fun _ _ _ _ _ _ us hl => match us, hl with | [_, _, _], _ => rfl
abbrev s_LineWords_M_seen : Stmt := inClass (top 37) 1
abbrev N_LineWords_M_seen : List Str := ["self"]
theorem sc_LineWords_M_seen : FnScope N_LineWords_M_seen ["self"] (defScope s_LineWords_M_seen) := ⟨rfl, rfl, rfl, by decide +kernel, rfl, by decide +kernel, by decide +kernel⟩
theorem bn_LineWords_M_seen : BindQ "seen" "LineWords.seen" s_LineWords_M_seen ["self"] := fun _ _ _ _ _ _ us hl => match us, hl with | [_], _ => rfl
abbrev s_LineWords_M_take : Stmt := inClass (top 37) 2
abbrev N_LineWords_M_take : List Str := ["self", "good"]
theorem sc_LineWords_M_take : FnScope N_LineWords_M_take ["self", "good"] (defScope s_LineWords_M_take) := ⟨rfl, rfl, rfl, by decide +kernel, rfl, by decide +kernel, by decide +kernel⟩
theorem bn_LineWords_M_take : BindQ "take" "LineWords.take" s_LineWords_M_take ["self", "good"] := fun _ _ _ _ _ _ us hl => match us, hl with | [_, _], _ => rfl
abbrev s_LineWords_M_shut : Stmt := inClass (top 37) 3
abbrev N_LineWords_M_shut : List Str := ["self"]
theorem sc_LineWords_M_shut : FnScope N_LineWords_M_shut ["self"] (defScope s_LineWords_M_shut) := ⟨rfl, rfl, rfl, by decide +kernel, rfl, by decide +kernel, by decide +kernel⟩
theorem bn_LineWords_M_shut : BindQ "shut" "LineWords.shut" s_LineWords_M_shut ["self"] := fun _ _ _ _ _ _ us hl => match us, hl with | [_], _ => rfl
abbrev s_LineWords_M_take_integer : Stmt := inClass (top 37) 4
abbrev N_LineWords_M_take_integer : List Str := ["self", "low", "high", "word"]
theorem sc_LineWords_M_take_integer : FnScope N_LineWords_M_take_integer ["self", "low", "high"] (defScope s_LineWords_M_take_integer) := ⟨rfl, rfl, rfl, by decide +kernel, rfl, by decide +kernel, by decide +kernel⟩
theorem bn_LineWords_M_take_integer : BindQ "take_integer" "LineWords.take_integer" s_LineWords_M_take_integer ["self", "low", "high"] := fun _ _ _ _ _ _ us hl => match us, hl with | [_, _, _], _ => rfl
abbrev s_LineWords_M_take_params : Stmt := inClass (top 37) 5
abbrev N_LineWords_M_take_params : List Str := ["self", "word", "params"]
theorem sc_LineWords_M_take_params : FnScope N_LineWords_M_take_params ["self"] (defScope s_LineWords_M_take_params) := ⟨rfl, rfl, rfl, by decide +kernel, rfl, by decide +kernel, by decide +kernel⟩
theorem bn_LineWords_M_take_params : BindQ "take_params" "LineWords.take_params" s_LineWords_M_take_params ["self"] := fun _ _ _ _ _ _ us hl => match us, hl with | [_], _ => rfl
abbrev s_LineWords_M_take_small : Stmt := inClass (top 37) 6
abbrev N_LineWords_M_take_small : List Str := ["self", "kind", "word"]
theorem sc_LineWords_M_take_small : FnScope N_LineWords_M_take_small ["self", "kind"] (defScope s_LineWords_M_take_small) := ⟨rfl, rfl, rfl, by decide +kernel, rfl, by decide +kernel, by decide +kernel⟩
theorem bn_LineWords_M_take_small : BindQ "take_small" "LineWords.take_small" s_LineWords_M_take_small ["self", "kind"] := fun _ _ _ _ _ _ us hl => match us, hl with | [_, _], _ => rfl
abbrev s_HalfForm_MU_initU : Stmt := inClass (top 38) 0
abbrev N_HalfForm_MU_initU : List Str := ["self", "head", "dues"]
theorem sc_HalfForm_MU_initU : FnScope N_HalfForm_MU_initU ["self", "head", "dues"] (defScope s_HalfForm_MU_initU) := ⟨rfl, rfl, rfl, by decide +kernel, rfl, by decide +kernel, by decide +kernel⟩
theorem bn_HalfForm_MU_initU : BindQ "__init__" "HalfForm.__init__" s_HalfForm_MU_initU ["self", "head", "dues"] := fun _ _ _ _ _ _ us hl => match us, hl with | [_, _, _], _ => rfl
abbrev s_HalfForm_M_whole : Stmt := inClass (top 38) 1
abbrev N_HalfForm_M_whole : List Str := ["self"]
theorem sc_HalfForm_M_whole : FnScope N_HalfForm_M_whole ["self"] (defScope s_HalfForm_M_whole) := ⟨rfl, rfl, rfl, by decide +kernel, rfl, by decide +kernel, by decide +kernel⟩
theorem bn_HalfForm_M_whole : BindQ "whole" "HalfForm.whole" s_HalfForm_M_whole ["self"] := fun _ _ _ _ _ _ us hl => match us, hl with | [_], _ => rfl
abbrev s__wall : Stmt := top 0
abbrev N__wall : List Str := ["k"]
theorem sc__wall : FnScope N__wall ["k"] (defScope s__wall) := ⟨rfl, rfl, rfl, by decide +kernel, rfl, by decide +kernel, by decide +kernel⟩
theorem bn__wall : BindP "_wall" s__wall ["k"] := fun _ _ _ _ _ _ us hl => match us, hl with | [_], _ => rfl
abbrev s_kinds_of : Stmt := top 12
abbrev N_kinds_of : List Str := ["word", "due"]
theorem sc_kinds_of : FnScope N_kinds_of ["word", "due"] (defScope s_kinds_of) := ⟨rfl, rfl, rfl, by decide +kernel, rfl, by decide +kernel, by decide +kernel⟩
theorem bn_kinds_of : BindP "kinds_of" s_kinds_of ["word", "due"] := fun _ _ _ _ _ _ us hl => match us, hl with | [_, _], _ => rfl
abbrev s_params_word : Stmt := top 14
abbrev N_params_word : List Str := ["params"]
theorem sc_params_word : FnScope N_params_word ["params"] (defScope s_params_word) := ⟨rfl, rfl, rfl, by decide +kernel, rfl, by decide +kernel, by decide +kernel⟩
theorem bn_params_word : BindP "params_word" s_params_word ["params"] := fun _ _ _ _ _ _ us hl => match us, hl with | [_], _ => rfl
abbrev s_form_parts : Stmt := top 15
abbrev N_form_parts : List Str := ["form"]
theorem sc_form_parts : FnScope N_form_parts ["form"] (defScope s_form_parts) := ⟨rfl, rfl, rfl, by decide +kernel, rfl, by decide +kernel, by decide +kernel⟩
theorem bn_form_parts : BindP "form_parts" s_form_parts ["form"] := fun _ _ _ _ _ _ us hl => match us, hl with | [_], _ => rfl
abbrev s_write_form : Stmt := top 16
abbrev N_write_form : List Str := ["form", "words", "left", "told"]
theorem sc_write_form : FnScope N_write_form ["form"] (defScope s_write_form) := ⟨rfl, rfl, rfl, by decide +kernel, rfl, by decide +kernel, by decide +kernel⟩
theorem bn_write_form : BindP "write_form" s_write_form ["form"] := fun _ _ _ _ _ _ us hl => match us, hl with | [_], _ => rfl
abbrev s_is_text : Stmt := top 21
abbrev N_is_text : List Str := ["thing", "sign"]
theorem sc_is_text : FnScope N_is_text ["thing"] (defScope s_is_text) := ⟨rfl, rfl, rfl, by decide +kernel, rfl, by decide +kernel, by decide +kernel⟩
theorem bn_is_text : BindP "is_text" s_is_text ["thing"] := fun _ _ _ _ _ _ us hl => match us, hl with | [_], _ => rfl
abbrev s_is_integer : Stmt := top 23
abbrev N_is_integer : List Str := ["thing", "low", "high"]
theorem sc_is_integer : FnScope N_is_integer ["thing", "low", "high"] (defScope s_is_integer) := ⟨rfl, rfl, rfl, by decide +kernel, rfl, by decide +kernel, by decide +kernel⟩
theorem bn_is_integer : BindP "is_integer" s_is_integer ["thing", "low", "high"] := fun _ _ _ _ _ _ us hl => match us, hl with | [_, _, _], _ => rfl
abbrev s_is_name : Stmt := top 27
abbrev N_is_name : List Str := ["thing", "sign"]
theorem sc_is_name : FnScope N_is_name ["thing"] (defScope s_is_name) := ⟨rfl, rfl, rfl, by decide +kernel, rfl, by decide +kernel, by decide +kernel⟩
theorem bn_is_name : BindP "is_name" s_is_name ["thing"] := fun _ _ _ _ _ _ us hl => match us, hl with | [_], _ => rfl
abbrev s_is_said : Stmt := top 28
abbrev N_is_said : List Str := ["thing"]
theorem sc_is_said : FnScope N_is_said ["thing"] (defScope s_is_said) := ⟨rfl, rfl, rfl, by decide +kernel, rfl, by decide +kernel, by decide +kernel⟩
theorem bn_is_said : BindP "is_said" s_is_said ["thing"] := fun _ _ _ _ _ _ us hl => match us, hl with | [_], _ => rfl
abbrev s_are_params : Stmt := top 29
abbrev N_are_params : List Str := ["thing", "place", "sign"]
theorem sc_are_params : FnScope N_are_params ["thing"] (defScope s_are_params) := ⟨rfl, rfl, rfl, by decide +kernel, rfl, by decide +kernel, by decide +kernel⟩
theorem bn_are_params : BindP "are_params" s_are_params ["thing"] := fun _ _ _ _ _ _ us hl => match us, hl with | [_], _ => rfl
abbrev s_is_small : Stmt := top 30
abbrev N_is_small : List Str := ["kind", "thing"]
theorem sc_is_small : FnScope N_is_small ["kind", "thing"] (defScope s_is_small) := ⟨rfl, rfl, rfl, by decide +kernel, rfl, by decide +kernel, by decide +kernel⟩
theorem bn_is_small : BindP "is_small" s_is_small ["kind", "thing"] := fun _ _ _ _ _ _ us hl => match us, hl with | [_, _], _ => rfl
abbrev s_words_of : Stmt := top 34
abbrev N_words_of : List Str := ["line", "words", "place", "word"]
theorem sc_words_of : FnScope N_words_of ["line"] (defScope s_words_of) := ⟨rfl, rfl, rfl, by decide +kernel, rfl, by decide +kernel, by decide +kernel⟩
theorem bn_words_of : BindP "words_of" s_words_of ["line"] := fun _ _ _ _ _ _ us hl => match us, hl with | [_], _ => rfl
abbrev s_is_decimal : Stmt := top 35
abbrev N_is_decimal : List Str := ["word", "sign"]
theorem sc_is_decimal : FnScope N_is_decimal ["word"] (defScope s_is_decimal) := ⟨rfl, rfl, rfl, by decide +kernel, rfl, by decide +kernel, by decide +kernel⟩
theorem bn_is_decimal : BindP "is_decimal" s_is_decimal ["word"] := fun _ _ _ _ _ _ us hl => match us, hl with | [_], _ => rfl
abbrev s_is_quoted : Stmt := top 36
abbrev N_is_quoted : List Str := ["word", "inner"]
theorem sc_is_quoted : FnScope N_is_quoted ["word"] (defScope s_is_quoted) := ⟨rfl, rfl, rfl, by decide +kernel, rfl, by decide +kernel, by decide +kernel⟩
theorem bn_is_quoted : BindP "is_quoted" s_is_quoted ["word"] := fun _ _ _ _ _ _ us hl => match us, hl with | [_], _ => rfl
abbrev s_begun : Stmt := top 39
abbrev N_begun : List Str := ["line", "due", "word", "half", "kind"]
theorem sc_begun : FnScope N_begun ["line", "due"] (defScope s_begun) := ⟨rfl, rfl, rfl, by decide +kernel, rfl, by decide +kernel, by decide +kernel⟩
theorem bn_begun : BindP "begun" s_begun ["line", "due"] := fun _ _ _ _ _ _ us hl => match us, hl with | [_, _], _ => rfl
abbrev s_take_form : Stmt := top 40
abbrev N_take_form : List Str := ["line", "due", "halves", "half", "kind", "letter"]
theorem sc_take_form : FnScope N_take_form ["line", "due"] (defScope s_take_form) := ⟨rfl, rfl, rfl, by decide +kernel, rfl, by decide +kernel, by decide +kernel⟩
theorem bn_take_form : BindP "take_form" s_take_form ["line", "due"] := fun _ _ _ _ _ _ us hl => match us, hl with | [_, _], _ => rfl
abbrev s_read_form : Stmt := top 42
abbrev N_read_form : List Str := ["text", "due", "line", "form"]
theorem sc_read_form : FnScope N_read_form ["text", "due"] (defScope s_read_form) := ⟨rfl, rfl, rfl, by decide +kernel, rfl, by decide +kernel, by decide +kernel⟩
theorem bn_read_form : BindP "read_form" s_read_form ["text", "due"] := fun _ _ _ _ _ _ us hl => match us, hl with | [_, _], _ => rfl
abbrev s__law_bag : Stmt := top 44
abbrev N__law_bag : List Str := ["_law_script", "_law_mixed", "_law_cell"]
theorem sc__law_bag : FnScope N__law_bag ["_law_script"] (defScope s__law_bag) := ⟨rfl, rfl, rfl, by decide +kernel, rfl, by decide +kernel, by decide +kernel⟩
theorem bn__law_bag : BindP "_law_bag" s__law_bag ["_law_script"] := fun _ _ _ _ _ _ us hl => match us, hl with | [_], _ => rfl
abbrev s__law_pick : Stmt := top 45
abbrev N__law_pick : List Str := ["_law_bag_here", "_law_many", "_law_number", "_law_cell"]
theorem sc__law_pick : FnScope N__law_pick ["_law_bag_here", "_law_many"] (defScope s__law_pick) := ⟨rfl, rfl, rfl, by decide +kernel, rfl, by decide +kernel, by decide +kernel⟩
theorem bn__law_pick : BindP "_law_pick" s__law_pick ["_law_bag_here", "_law_many"] := fun _ _ _ _ _ _ us hl => match us, hl with | [_, _], _ => rfl
abbrev s__law_choice : Stmt := top 46
abbrev N__law_choice : List Str := ["_law_bag_here", "_law_things"]
theorem sc__law_choice : FnScope N__law_choice ["_law_bag_here", "_law_things"] (defScope s__law_choice) := ⟨rfl, rfl, rfl, by decide +kernel, rfl, by decide +kernel, by decide +kernel⟩
theorem bn__law_choice : BindP "_law_choice" s__law_choice ["_law_bag_here", "_law_things"] := fun _ _ _ _ _ _ us hl => match us, hl with | [_, _], _ => rfl
abbrev s__law_one_in : Stmt := top 47
abbrev N__law_one_in : List Str := ["_law_bag_here", "_law_many"]
theorem sc__law_one_in : FnScope N__law_one_in ["_law_bag_here", "_law_many"] (defScope s__law_one_in) := ⟨rfl, rfl, rfl, by decide +kernel, rfl, by decide +kernel, by decide +kernel⟩
theorem bn__law_one_in : BindP "_law_one_in" s__law_one_in ["_law_bag_here", "_law_many"] := fun _ _ _ _ _ _ us hl => match us, hl with | [_, _], _ => rfl
abbrev s__law_shuffled : Stmt := top 48
abbrev N__law_shuffled : List Str := ["_law_bag_here", "_law_things", "_law_rest", "_law_row", "_law_k"]
theorem sc__law_shuffled : FnScope N__law_shuffled ["_law_bag_here", "_law_things"] (defScope s__law_shuffled) := ⟨rfl, rfl, rfl, by decide +kernel, rfl, by decide +kernel, by decide +kernel⟩
theorem bn__law_shuffled : BindP "_law_shuffled" s__law_shuffled ["_law_bag_here", "_law_things"] := fun _ _ _ _ _ _ us hl => match us, hl with | [_, _], _ => rfl
abbrev s__law_letters : Stmt := top 49
abbrev N__law_letters : List Str := ["_law_bag_here", "_law_many", "_law_k"]
theorem sc__law_letters : FnScope N__law_letters ["_law_bag_here", "_law_many"] (defScope s__law_letters) := ⟨rfl, rfl, rfl, by decide +kernel, rfl, by decide +kernel, by decide +kernel⟩
theorem bn__law_letters : BindP "_law_letters" s__law_letters ["_law_bag_here", "_law_many"] := fun _ _ _ _ _ _ us hl => match us, hl with | [_, _], _ => rfl
abbrev s__law_reserved : Stmt := top 50
abbrev N__law_reserved : List Str := ["_law_told"]
theorem sc__law_reserved : FnScope N__law_reserved [] (defScope s__law_reserved) := ⟨rfl, rfl, rfl, by decide +kernel, rfl, by decide +kernel, by decide +kernel⟩
theorem bn__law_reserved : BindP "_law_reserved" s__law_reserved [] := fun _ _ _ _ _ _ us hl => match us, hl with | [], _ => rfl
abbrev s__law_kinds : Stmt := top 51
abbrev N__law_kinds : List Str := ["_law_due"]
theorem sc__law_kinds : FnScope N__law_kinds ["_law_due"] (defScope s__law_kinds) := ⟨rfl, rfl, rfl, by decide +kernel, rfl, by decide +kernel, by decide +kernel⟩
theorem bn__law_kinds : BindP "_law_kinds" s__law_kinds ["_law_due"] := fun _ _ _ _ _ _ us hl => match us, hl with | [_], _ => rfl
abbrev s__law_known : Stmt := top 52
abbrev N__law_known : List Str := ["_law_kind", "_law_known_here"]
theorem sc__law_known : FnScope N__law_known ["_law_kind"] (defScope s__law_known) := ⟨rfl, rfl, rfl, by decide +kernel, rfl, by decide +kernel, by decide +kernel⟩
theorem bn__law_known : BindP "_law_known" s__law_known ["_law_kind"] := fun _ _ _ _ _ _ us hl => match us, hl with | [_], _ => rfl
abbrev s__law_ranges : Stmt := top 53
abbrev N__law_ranges : List Str := []
theorem sc__law_ranges : FnScope N__law_ranges [] (defScope s__law_ranges) := ⟨rfl, rfl, rfl, by decide +kernel, rfl, by decide +kernel, by decide +kernel⟩
theorem bn__law_ranges : BindP "_law_ranges" s__law_ranges [] := fun _ _ _ _ _ _ us hl => match us, hl with | [], _ => rfl
abbrev s__law_name : Stmt := top 54
abbrev N__law_name : List Str := ["_law_bag_here", "_law_name_here"]
theorem sc__law_name : FnScope N__law_name ["_law_bag_here"] (defScope s__law_name) := ⟨rfl, rfl, rfl, by decide +kernel, rfl, by decide +kernel, by decide +kernel⟩
theorem bn__law_name : BindP "_law_name" s__law_name ["_law_bag_here"] := fun _ _ _ _ _ _ us hl => match us, hl with | [_], _ => rfl
abbrev s__law_small : Stmt := top 55
abbrev N__law_small : List Str := ["_law_bag_here", "_law_kind", "_law_low", "_law_high", "_law_known_here"]
theorem sc__law_small : FnScope N__law_small ["_law_bag_here", "_law_kind"] (defScope s__law_small) := ⟨rfl, rfl, rfl, by decide +kernel, rfl, by decide +kernel, by decide +kernel⟩
theorem bn__law_small : BindP "_law_small" s__law_small ["_law_bag_here", "_law_kind"] := fun _ _ _ _ _ _ us hl => match us, hl with | [_, _], _ => rfl
abbrev s__law_form : Stmt := top 56
abbrev N__law_form : List Str := ["_law_bag_here", "_law_due", "_law_levels", "_law_words", "_law_row", "_law_params", "_law_forms", "_law_kind", "_law_letter"]
theorem sc__law_form : FnScope N__law_form ["_law_bag_here", "_law_due", "_law_levels"] (defScope s__law_form) := ⟨rfl, rfl, rfl, by decide +kernel, rfl, by decide +kernel, by decide +kernel⟩
theorem bn__law_form : BindP "_law_form" s__law_form ["_law_bag_here", "_law_due", "_law_levels"] := fun _ _ _ _ _ _ us hl => match us, hl with | [_, _, _], _ => rfl
abbrev s__law_form_text : Stmt := top 57
abbrev N__law_form_text : List Str := ["_law_form_here", "_law_row", "_law_part", "_law_one"]
theorem sc__law_form_text : FnScope N__law_form_text ["_law_form_here"] (defScope s__law_form_text) := ⟨rfl, rfl, rfl, by decide +kernel, rfl, by decide +kernel, by decide +kernel⟩
theorem bn__law_form_text : BindP "_law_form_text" s__law_form_text ["_law_form_here"] := fun _ _ _ _ _ _ us hl => match us, hl with | [_], _ => rfl
abbrev s__law_read : Stmt := top 58
abbrev N__law_read : List Str := ["_law_text", "_law_due", "_law_told", "e"]
theorem sc__law_read : FnScope N__law_read ["_law_text", "_law_due"] (defScope s__law_read) := ⟨rfl, rfl, rfl, by decide +kernel, rfl, by decide +kernel, by decide +kernel⟩
theorem bn__law_read : BindP "_law_read" s__law_read ["_law_text", "_law_due"] := fun _ _ _ _ _ _ us hl => match us, hl with | [_, _], _ => rfl
abbrev s__law_bad : Stmt := top 59
abbrev N__law_bad : List Str := ["_law_place"]
theorem sc__law_bad : FnScope N__law_bad ["_law_place"] (defScope s__law_bad) := ⟨rfl, rfl, rfl, by decide +kernel, rfl, by decide +kernel, by decide +kernel⟩
theorem bn__law_bad : BindP "_law_bad" s__law_bad ["_law_place"] := fun _ _ _ _ _ _ us hl => match us, hl with | [_], _ => rfl
abbrev s__law_other : Stmt := top 60
abbrev N__law_other : List Str := ["_law_form_here"]
theorem sc__law_other : FnScope N__law_other ["_law_form_here"] (defScope s__law_other) := ⟨rfl, rfl, rfl, by decide +kernel, rfl, by decide +kernel, by decide +kernel⟩
theorem bn__law_other : BindP "_law_other" s__law_other ["_law_form_here"] := fun _ _ _ _ _ _ us hl => match us, hl with | [_], _ => rfl
abbrev s__law_refused : Stmt := top 61
abbrev N__law_refused : List Str := ["_law_bag_here", "_law_text", "_law_due", "_law_words", "_law_many", "_law_more", "_law_place", "_law_odd"]
theorem sc__law_refused : FnScope N__law_refused ["_law_bag_here", "_law_text", "_law_due"] (defScope s__law_refused) := ⟨rfl, rfl, rfl, by decide +kernel, rfl, by decide +kernel, by decide +kernel⟩
theorem bn__law_refused : BindP "_law_refused" s__law_refused ["_law_bag_here", "_law_text", "_law_due"] := fun _ _ _ _ _ _ us hl => match us, hl with | [_, _, _], _ => rfl
abbrev s_law : Stmt := top 62
abbrev N_law : List Str := ["_law_script", "_law_bag_here", "_law_turn", "_law_due", "_law_word", "_law_other_here", "_law_form_here", "_law_text", "_law_step"]
theorem sc_law : FnScope N_law ["_law_script"] (defScope s_law) := ⟨rfl, rfl, rfl, by decide +kernel, rfl, by decide +kernel, by decide +kernel⟩
theorem bn_law : BindP "law" s_law ["_law_script"] := fun _ _ _ _ _ _ us hl => match us, hl with | [_], _ => rfl
structure Tx (P : Program) (K : PySem.W.Frag) (mg : Str → Option Value) : Prop where
  b_ValueError : mg "ValueError" = none
  b_all : mg "all" = none
  b_enumerate : mg "enumerate" = none
  b_int : mg "int" = none
  b_isinstance : mg "isinstance" = none
  b_len : mg "len" = none
  b_list : mg "list" = none
  b_range : mg "range" = none
  b_repr : mg "repr" = none
  b_str : mg "str" = none
  b_tuple : mg "tuple" = none
  b_super : mg "super" = none
  c_DIGITS : Cst mg "DIGITS" (.str "0123456789")
  c_KNOWN_NAMES : Cst mg "KNOWN_NAMES" (.ref (He.ga K "KNOWN_NAMES"))
  c_LETTERS : Cst mg "LETTERS" (.str "abcdefghijklmnopqrstuvwxyz")
  c_LONGEST_INTEGER : Cst mg "LONGEST_INTEGER" (.int 5)
  c_NUMBERS : Cst mg "NUMBERS" (.str "abcd")
  c_NUMBER_FORMS : Cst mg "NUMBER_FORMS" (.ref (He.ga K "NUMBER_FORMS"))
  c_RANGES : Cst mg "RANGES" (.ref (He.ga K "RANGES"))
  c_RESERVED : Cst mg "RESERVED" (.ref (He.ga K "RESERVED"))
  c_THINGS : Cst mg "THINGS" (.str "xyz")
  c_THING_FORMS : Cst mg "THING_FORMS" (.ref (He.ga K "THING_FORMS"))
  g_BadLine : mg "BadLine" = some (.ref (He.ga K "BadLine"))
  x_BadLine : XC2 K P "BadLine" "line" "word" (He.ga K "BadLine")
  e_BadLine : ExcC K (He.ga K "BadLine")
  g_BadPart : mg "BadPart" = some (.ref (He.ga K "BadPart"))
  g_FableError : mg "FableError" = some (.ref (He.ga K "FableError"))
  g_HalfForm : mg "HalfForm" = some (.ref (He.ga K "HalfForm"))
  g_LineWords : mg "LineWords" = some (.ref (He.ga K "LineWords"))
  cl_HalfForm : Cls K (He.ga K "HalfForm")
  cl_LineWords : Cls K (He.ga K "LineWords")
  n_HalfForm_dues : NoAttr K (He.ga K "HalfForm") "dues"
  n_HalfForm_head : NoAttr K (He.ga K "HalfForm") "head"
  n_HalfForm_read_parts_now : NoAttr K (He.ga K "HalfForm") "read_parts_now"
  n_LineWords_number : NoAttr K (He.ga K "LineWords") "number"
  n_LineWords_taken_many : NoAttr K (He.ga K "LineWords") "taken_many"
  n_LineWords_words : NoAttr K (He.ga K "LineWords") "words"
  k_BL : PySem.W.kitOne K (.ref (He.ga K "BadLine")) (.ref (He.ga K "BadLine")) = some true
  k_VE : PySem.W.kitOne K (.ref (He.ga K "BadLine")) (.type "ValueError") = some true
  k_BP : PySem.W.kitOne K (.ref (He.ga K "BadLine")) (.ref (He.ga K "BadPart")) = some false
  m_BL : PySem.W.exmOne K (.ref (He.ga K "BadLine")) (.ref (He.ga K "FableError")) = some true
  t_NF : kdB K "NUMBER_FORMS" (numForms.map fun r => (r.1, r.2.map V.str)) = true
  t_TF : kdB K "THING_FORMS" (thForms.map fun r => (r.1, r.2.map V.str)) = true
  t_KN : kdB K "KNOWN_NAMES" (knownT.map fun r => (r.1, r.2.map V.str)) = true
  t_RG : kdB K "RANGES" rangeV = true
  t_RS : tupV K (.ref (He.ga K "RESERVED")) (resW.map V.str) = true
/-- dicts of the module with text keys -/
structure Td (w : World) (K : PySem.W.Frag) : Prop where
  NUMBER_FORMS : KTab K w (He.ga K "NUMBER_FORMS") (numForms.map (·.1))
  THING_FORMS : KTab K w (He.ga K "THING_FORMS") (thForms.map (·.1))
  KNOWN_NAMES : KTab K w (He.ga K "KNOWN_NAMES") (knownT.map (·.1))
  RANGES : KTab K w (He.ga K "RANGES") rangeK
theorem new_s {H H' : Hp} {p : Addr} {o : HO} (n : H p = none) (e : upd H p o = H') : Same H H' := e ▸ same_new n
theorem new_h {H H' : Hp} {p : Addr} {o : HO} (e : upd H p o = H') : H' p = some o := e ▸ upd_same
theorem tyL {K : PySem.W.Frag} {H : Hp} {p : Addr} {xs : List V} (h : H p = some (.lst xs)) : tyV K "list" (.ref p) H := .inl ⟨rfl, xs, .inl (.inl h)⟩
theorem Same.put {H H1 : Hp} {D : Addr} {o : HO} (x : Same H H1) (hD : H D = none) : Same H (upd H1 D o) := fun a o' h => by
  rw [upd_ne (ne_of_none h hD)]
  exact x a o' h
theorem none_ne {H : Hp} {a b : Addr} {o : HO} (h : H a = some o) (hb : H b = none) : a ≠ b := ne_of_none h hb
theorem cutV_lo (xs : List V) (n : Nat) : cutV xs (some (n : Int)) none = xs.drop n := by
  unfold cutV
  rw [HT.sIx_nat, HT.sIx_none]
  by_cases h : n ≤ xs.length
  · rw [Nat.min_eq_left h, List.take_of_length_le (by rw [List.length_drop]; omega)]
  · rw [Nat.min_eq_right (by omega), List.drop_of_length_le (by omega : xs.length ≤ n), List.drop_length]
    simp
theorem cutV_hi (xs : List V) (n : Nat) : cutV xs none (some (n : Int)) = xs.take n := by
  unfold cutV
  rw [HT.sIx_nat, HT.sIx_none, List.drop_zero, Nat.sub_zero]
  by_cases h : n ≤ xs.length
  · rw [Nat.min_eq_left h]
  · rw [Nat.min_eq_right (by omega), List.take_of_length_le (by omega : xs.length ≤ n), List.take_length]
theorem cutV_two (xs : List V) (a b : Nat) : cutV xs (some (a : Int)) (some (b : Int)) = (xs.drop a).take (b - a) := by
  unfold cutV
  rw [HT.sIx_nat, HT.sIx_nat]
  by_cases h : a ≤ xs.length
  · rw [Nat.min_eq_left h]
    by_cases h2 : b ≤ xs.length
    · rw [Nat.min_eq_left h2]
    · rw [Nat.min_eq_right (by omega), List.take_of_length_le (by rw [List.length_drop]; omega), List.take_of_length_le (by rw [List.length_drop]; omega)]
  · rw [Nat.min_eq_right (by omega : xs.length ≤ a), List.drop_of_length_le (by omega : xs.length ≤ a), List.drop_length]
    simp
theorem atI_ok {xs : List Int} {a : Int} (h0 : 0 ≤ a) (h : a < ((xs.map V.int).length : Nat)) : ∃ n, atI (xs.map V.int) a = some (.int n) := by
  rw [List.length_map] at h
  have e : ixN (xs.map V.int).length a = some a.toNat := by
    unfold ixN
    rw [if_pos h0, if_pos (by rw [List.length_map]; exact h)]
  unfold atI
  rw [e]
  have hl : a.toNat < xs.length := by omega
  exact ⟨xs[a.toNat], by simp [hl]⟩
theorem atI_get {α : Type} {xs : List α} {i : Nat} {v : α} (h : xs[i]? = some v) : atI xs (i : Int) = some v := by
  have hl := (List.getElem?_eq_some_iff.mp h).1
  have e : ixN xs.length (i : Int) = some i := by
    unfold ixN
    rw [if_pos (by omega), if_pos (by omega)]
    rfl
  unfold atI
  rw [e]
  exact h
theorem atI_last {α : Type} {xs : List α} {y : α} : atI (xs ++ [y]) (-1) = some y := by
  have e : ixN (xs ++ [y]).length (-1) = some xs.length := by
    unfold ixN
    rw [if_neg (by decide), List.length_append, List.length_singleton, if_pos (by omega)]
    congr 1
    omega
  unfold atI
  rw [e]
  simp
theorem ixN_last {n : Nat} : ixN (n + 1) (-1) = some n := by
  unfold ixN
  rw [if_neg (by decide), if_pos (by omega)]
  congr 1
  omega
theorem ixN_nat {n i : Nat} (h : i < n) : ixN n (i : Int) = some i := by
  unfold ixN
  rw [if_pos (by omega), if_pos (by omega)]
  rfl
theorem mapI_get {ns : List Int} {i : Nat} (h : i < ns.length) : (ns.map V.int)[i]? = some (.int ns[i]) := by simp [h]
theorem mapI_some {ns : List Int} {i : Nat} {x : V} (h : (ns.map V.int)[i]? = some x) : ∃ n, x = V.int n ∧ ns[i]? = some n := by
  rw [List.getElem?_map] at h
  cases e : ns[i]? with
  | none => rw [e] at h; cases h
  | some z => rw [e] at h; exact ⟨z, (Option.some.inj h).symm, rfl⟩
theorem atI_mem {α : Type} {xs : List α} {a : Int} (h0 : 0 ≤ a) (h : a < (xs.length : Nat)) : ∃ c, atI xs a = some c ∧ c ∈ xs := by
  have e : ixN xs.length a = some a.toNat := by
    unfold ixN
    rw [if_pos h0, if_pos h]
  unfold atI
  rw [e]
  have hl : a.toNat < xs.length := by omega
  exact ⟨xs[a.toNat], by simp [hl], List.getElem_mem hl⟩
/-- the bag at b, its numbers at c -/
def roomKV : Option Int → List (Key × V)
  | none => []
  | some z => [(.inr "room", .int z)]
/-- t: whether it has a room -/
def BagC (H : Hp) (b c : Addr) (t : Bool) : Prop := ∃ (ns : List Int) (a r m n : Int) (ro : Option Int), H b = some (.dK (bagKV c a r m n ++ roomKV ro)) ∧ ro.isSome = t ∧ H c = some (.lst (ns.map V.int)) ∧ 0 ≤ a
def Bag (H : Hp) (b : Addr) : Prop := ∃ (c : Addr) (t : Bool), BagC H b c t
def BagR (H : Hp) (b : Addr) : Prop := ∃ c : Addr, BagC H b c true
theorem BagR.bag {H : Hp} {b : Addr} (B : BagR H b) : Bag H b := ⟨B.choose, true, B.choose_spec⟩
/-- all that was tracked but the bag is as it was; the bag is a bag -/
structure Kp (b : Addr) (H H' : Hp) : Prop where
  keep : ∀ a o, a ≠ b → H a = some o → H' a = some o
  bag : Bag H' b
  cel : ∀ c t, BagC H b c t → BagC H' b c t
section
variable {b c D : Addr} {H H1 H2 : Hp}
theorem Bag.some (B : Bag H b) : ∃ kvs, H b = some (.dK kvs) := by
  obtain ⟨c, t, ns, a, r, m, n, ro, h, _⟩ := B
  exact ⟨_, h⟩
theorem BagC.same {t : Bool} (B : BagC H b c t) (s : Same H H1) : BagC H1 b c t := by
  obtain ⟨ns, a, r, m, n, ro, h1, h2, h3, h4⟩ := B
  exact ⟨ns, a, r, m, n, ro, s _ _ h1, h2, s _ _ h3, h4⟩
theorem Kp.refl (B : Bag H b) : Kp b H H := ⟨fun _ _ _ h => h, B, fun _ _ h => h⟩
theorem Kp.trans (x : Kp b H H1) (y : Kp b H1 H2) : Kp b H H2 := ⟨fun a o n h => y.keep a o n (x.keep a o n h), y.bag, fun c t h => y.cel c t (x.cel c t h)⟩
theorem Bag.same (B : Bag H b) (s : Same H H1) : Bag H1 b := by
  obtain ⟨c, t, h⟩ := B
  exact ⟨c, t, h.same s⟩
theorem Kp.same (B : Bag H b) (s : Same H H1) : Kp b H H1 := ⟨fun a o _ h => s a o h, B.same s, fun c t h => h.same s⟩
theorem Kp.then (x : Kp b H H1) (s : Same H1 H2) : Kp b H H2 := x.trans (Kp.same x.bag s)
theorem BagC.put {o : HO} {t : Bool} (B : BagC H b c t) (hb : b ≠ D) (hc : c ≠ D) : BagC (upd H D o) b c t := by
  obtain ⟨ns, a, r, m, n, ro, h1, h2, h3, h4⟩ := B
  exact ⟨ns, a, r, m, n, ro, by rw [upd_ne hb]; exact h1, h2, by rw [upd_ne hc]; exact h3, h4⟩
/-- what was made since then may be changed -/
theorem Kp.put {o : HO} (B : Bag H b) (x : Kp b H H1) (hD : H D = Option.none) : Kp b H (upd H1 D o) := by
  have g : ∀ c t, BagC H b c t → BagC (upd H1 D o) b c t := by
    intro c t Bc
    have B1 := x.cel c t Bc
    obtain ⟨ns, a, r, m, n, ro, h1, h2, h3, h4⟩ := Bc
    exact B1.put (ne_of_none h1 hD) (ne_of_none h3 hD)
  obtain ⟨c, t, Bc⟩ := B
  exact ⟨fun a o' n h => by rw [upd_ne (ne_of_none h hD)]; exact x.keep a o' n h, ⟨c, t, g c t Bc⟩, g⟩
theorem Kp.none_ne (x : Kp b H H1) (B : Bag H b) (hD : H D = Option.none) : D ≠ b := fun e => by
  obtain ⟨kvs, h⟩ := B.some
  rw [← e, hD] at h
  cases h
theorem Bag.lst (B : Bag H b) {a : Addr} {xs : List V} (h : H a = Option.some (.lst xs)) : a ≠ b := by
  obtain ⟨c, t, ns, x, r, m, n, ro, h1, _⟩ := B
  exact ne_of h h1 (by intro z; cases z)
theorem Bag.tup (B : Bag H b) {a : Addr} {xs : List V} (h : H a = Option.some (.tup xs)) : a ≠ b := by
  obtain ⟨c, t, ns, x, r, m, n, ro, h1, _⟩ := B
  exact ne_of h h1 (by intro z; cases z)
theorem Kp.lst (x : Kp b H H1) (B : Bag H b) {a : Addr} {xs : List V} (h : H a = Option.some (.lst xs)) : H1 a = Option.some (.lst xs) := x.keep _ _ (B.lst h) h
theorem Kp.tup (x : Kp b H H1) (B : Bag H b) {a : Addr} {xs : List V} (h : H a = Option.some (.tup xs)) : H1 a = Option.some (.tup xs) := x.keep _ _ (B.tup h) h
theorem Kp.free (x : Kp b H H1) {p : Addr} (h : H1 p = Option.none) : H p = Option.none := by
  cases q : H p with
  | none => rfl
  | some o =>
    by_cases e : p = b
    · obtain ⟨kvs, hb⟩ := x.bag.some
      rw [e, hb] at h
      cases h
    · rw [x.keep p o e q] at h
      cases h
end
theorem Kp.room {b : Addr} {H H' : Hp} (k : Kp b H H') (B : BagR H b) : BagR H' b := ⟨_, k.cel _ _ B.choose_spec⟩
theorem bagR_len {c : Addr} {a r m n : Int} {ro : Option Int} : (bagKV c a r m n ++ roomKV ro).length < 1000 := by
  cases ro with
  | none => exact (show 5 < 1000 by decide)
  | some z => exact (show 6 < 1000 by decide)
section
variable {c : Addr} {a r m n : Int} {v : Int} {ro : Option Int}
theorem bagR_cells : valV (bagKV c a r m n ++ roomKV ro) (.inr "cells") = some (.ref c) := by cases ro <;> rfl
theorem bagR_at : valV (bagKV c a r m n ++ roomKV ro) (.inr "at") = some (.int a) := by cases ro <;> rfl
theorem bagR_rest : valV (bagKV c a r m n ++ roomKV ro) (.inr "rest") = some (.int r) := by cases ro <;> rfl
theorem bagR_mixed : valV (bagKV c a r m n ++ roomKV ro) (.inr "mixed") = some (.int m) := by cases ro <;> rfl
theorem bagR_count : valV (bagKV c a r m n ++ roomKV ro) (.inr "count") = some (.int n) := by cases ro <;> rfl
theorem bagR_atP : putK (bagKV c a r m n ++ roomKV ro) (.inr "at") (.int v) = bagKV c v r m n ++ roomKV ro := by cases ro <;> rfl
theorem bagR_restP : putK (bagKV c a r m n ++ roomKV ro) (.inr "rest") (.int v) = bagKV c a v m n ++ roomKV ro := by cases ro <;> rfl
theorem bagR_mixedP : putK (bagKV c a r m n ++ roomKV ro) (.inr "mixed") (.int v) = bagKV c a r v n ++ roomKV ro := by cases ro <;> rfl
theorem bagR_countP : putK (bagKV c a r m n ++ roomKV ro) (.inr "count") (.int v) = bagKV c a r m v ++ roomKV ro := by cases ro <;> rfl
theorem bagR_roomP : putK (bagKV c a r m n ++ roomKV ro) (.inr "room") (.int v) = bagKV c a r m n ++ roomKV (some v) := by cases ro <;> rfl
theorem bagR_room : valV (bagKV c a r m n ++ roomKV (some v)) (.inr "room") = some (.int v) := rfl
end
/-- _law_pick(bag, many) -/
def spPick : Sp := fun vs H Q _ => ∃ (b : Addr) (many : Int), vs = [.ref b, .int many] ∧ Bag H b ∧ 0 < many ∧ many < 1073741824 ∧ ∀ (n : Int) (H' : Hp), 0 ≤ n → n < many → Kp b H H' → Q (.int n) H'
/-- _law_bag(script) -/
def spBag (K : PySem.W.Frag) : Sp := fun vs H Q _ => ∃ (a : Addr) (ns : List Int), vs = [.ref a] ∧ SqL K H a (ns.map V.int) ∧ ns.length ≤ 1000 ∧ ∀ (b : Addr) (H' : Hp), Same H H' → H b = none → Bag H' b → Q (.ref b) H'
/-! ### data by its shape -/
mutual
inductive Dv (H : Hp) : V → PyData → Prop
  | non : Dv H .non .none
  | bl (b : Bool) : Dv H (.bl b) (.bool b)
  | int (i : Int) : Dv H (.int i) (.int i)
  | str (x : Str) : Dv H (.str x) (.str x)
  | lst {a : Addr} {xs : List V} {ds : List PyData} : H a = some (.lst xs) → DvAll H xs ds → Dv H (.ref a) (.list ds)
  | tup {a : Addr} {xs : List V} {ds : List PyData} : H a = some (.tup xs) → DvAll H xs ds → Dv H (.ref a) (.tuple ds)
inductive DvAll (H : Hp) : List V → List PyData → Prop
  | nil : DvAll H [] []
  | cons {v : V} {vs : List V} {d : PyData} {ds : List PyData} : Dv H v d → DvAll H vs ds → DvAll H (v :: vs) (d :: ds)
end
mutual
theorem Dv.map {H H' : Hp} (hl : ∀ a xs, H a = some (.lst xs) → H' a = some (.lst xs)) (ht : ∀ a xs, H a = some (.tup xs) → H' a = some (.tup xs)) : ∀ (d : PyData) (v : V), Dv H v d → Dv H' v d
  | .none, _, h => by cases h; exact .non
  | .bool b, _, h => by cases h; exact .bl b
  | .int i, _, h => by cases h; exact .int i
  | .str x, _, h => by cases h; exact .str x
  | .list ds, _, h => by
    cases h with
    | lst h1 h2 => exact .lst (hl _ _ h1) (DvAll.map hl ht ds _ h2)
  | .tuple ds, _, h => by
    cases h with
    | tup h1 h2 => exact .tup (ht _ _ h1) (DvAll.map hl ht ds _ h2)
  | .dict _, _, h => by cases h
theorem DvAll.map {H H' : Hp} (hl : ∀ a xs, H a = some (.lst xs) → H' a = some (.lst xs)) (ht : ∀ a xs, H a = some (.tup xs) → H' a = some (.tup xs)) : ∀ (ds : List PyData) (vs : List V), DvAll H vs ds → DvAll H' vs ds
  | [], _, h => by cases h; exact .nil
  | d :: ds, _, h => by
    cases h with
    | cons h1 h2 => exact .cons (Dv.map hl ht d _ h1) (DvAll.map hl ht ds _ h2)
end
mutual
theorem Dv.dp {K : PySem.W.Frag} {H : Hp} : ∀ (d : PyData) (v : V), Dv H v d → Dp K H v d
  | .none, _, h => by cases h; exact .non
  | .bool b, _, h => by cases h; exact .bl b
  | .int i, _, h => by cases h; exact .int i
  | .str x, _, h => by cases h; exact .str x
  | .list ds, _, h => by
    cases h with
    | lst h1 h2 => exact .lst (.inl (.inl h1)) (DvAll.dp ds _ h2)
  | .tuple ds, _, h => by
    cases h with
    | tup h1 h2 => exact .tup (.inl (.inl h1)) (DvAll.dp ds _ h2)
  | .dict _, _, h => by cases h
theorem DvAll.dp {K : PySem.W.Frag} {H : Hp} : ∀ (ds : List PyData) (vs : List V), DvAll H vs ds → DpAll K H vs ds
  | [], _, h => by cases h; exact .nil
  | d :: ds, _, h => by
    cases h with
    | cons h1 h2 => exact .cons (Dv.dp d _ h1) (DvAll.dp ds _ h2)
end
theorem Dv.same {H H' : Hp} {v : V} {d : PyData} (h : Dv H v d) (s : Same H H') : Dv H' v d := Dv.map (fun a xs e => s _ _ e) (fun a xs e => s _ _ e) d v h
theorem DvAll.same {H H' : Hp} {v : List V} {d : List PyData} (h : DvAll H v d) (s : Same H H') : DvAll H' v d := DvAll.map (fun a xs e => s _ _ e) (fun a xs e => s _ _ e) d v h
theorem Dv.kp {b : Addr} {H H' : Hp} {v : V} {d : PyData} (h : Dv H v d) (B : Bag H b) (k : Kp b H H') : Dv H' v d := Dv.map (fun a xs e => k.lst B e) (fun a xs e => k.tup B e) d v h
theorem DvAll.len {H : Hp} : ∀ {vs : List V} {ds : List PyData}, DvAll H vs ds → vs.length = ds.length
  | _, _, .nil => rfl
  | _, _, .cons _ h => by rw [List.length_cons, List.length_cons, h.len]
theorem DvAll.get {H : Hp} : ∀ {vs : List V} {ds : List PyData} {i : Nat} {v : V}, DvAll H vs ds → vs[i]? = some v → ∃ d, ds[i]? = some d ∧ Dv H v d
  | _, _, 0, _, .cons h _, e => by cases e; exact ⟨_, rfl, h⟩
  | _, _, i + 1, _, .cons _ h, e => h.get (i := i) e
theorem DvAll.app {H : Hp} : ∀ {vs ws : List V} {ds es : List PyData}, DvAll H vs ds → DvAll H ws es → DvAll H (vs ++ ws) (ds ++ es)
  | _, _, _, _, .nil, h => h
  | _, _, _, _, .cons h r, h2 => .cons h (r.app h2)
/-- an integer of data -/
def valI : PyData → Int
  | .int i => i
  | _ => 0
theorem Dv.inv_int {H : Hp} {v : V} {i : Int} (h : Dv H v (.int i)) : v = .int i := by cases h; rfl
theorem Dv.inv_str {H : Hp} {v : V} {z : Str} (h : Dv H v (.str z)) : v = .str z := by cases h; rfl
theorem Dv.inv_bl {H : Hp} {v : V} {b : Bool} (h : Dv H v (.bool b)) : v = .bl b := by cases h; rfl
theorem Dv.inv_non {H : Hp} {v : V} (h : Dv H v .none) : v = .non := by cases h; rfl
theorem Dv.inv_tup {H : Hp} {v : V} {ds : List PyData} (h : Dv H v (.tuple ds)) : ∃ a xs, v = .ref a ∧ H a = some (.tup xs) ∧ DvAll H xs ds := by
  cases h with
  | tup h1 h2 => exact ⟨_, _, rfl, h1, h2⟩
theorem Dv.inv_lst {H : Hp} {v : V} {ds : List PyData} (h : Dv H v (.list ds)) : ∃ a xs, v = .ref a ∧ H a = some (.lst xs) ∧ DvAll H xs ds := by
  cases h with
  | lst h1 h2 => exact ⟨_, _, rfl, h1, h2⟩
theorem DvAll.inv_nil {H : Hp} {vs : List V} (h : DvAll H vs []) : vs = [] := by cases h; rfl
theorem DvAll.inv_cons {H : Hp} {vs : List V} {d : PyData} {ds : List PyData} (h : DvAll H vs (d :: ds)) : ∃ v ws, vs = v :: ws ∧ Dv H v d ∧ DvAll H ws ds := by
  cases h with
  | cons h1 h2 => exact ⟨_, _, rfl, h1, h2⟩
theorem DvAll.inv1 {H : Hp} {vs : List V} {d : PyData} (h : DvAll H vs [d]) : ∃ v, vs = [v] ∧ Dv H v d := by
  obtain ⟨v, ws, rfl, h1, h2⟩ := h.inv_cons
  exact ⟨v, by rw [h2.inv_nil], h1⟩
theorem DvAll.inv2 {H : Hp} {vs : List V} {d e : PyData} (h : DvAll H vs [d, e]) : ∃ v w, vs = [v, w] ∧ Dv H v d ∧ Dv H w e := by
  obtain ⟨v, ws, rfl, h1, h2⟩ := h.inv_cons
  obtain ⟨w, rfl, h3⟩ := h2.inv1
  exact ⟨v, w, rfl, h1, h3⟩
theorem DvAll.inv3 {H : Hp} {vs : List V} {d e f : PyData} (h : DvAll H vs [d, e, f]) : ∃ v w u, vs = [v, w, u] ∧ Dv H v d ∧ Dv H w e ∧ Dv H u f := by
  obtain ⟨v, ws, rfl, h1, h2⟩ := h.inv_cons
  obtain ⟨w, u, rfl, h3, h4⟩ := h2.inv2
  exact ⟨v, w, u, rfl, h1, h3, h4⟩
theorem DvAll.mem {H : Hp} : ∀ {vs : List V} {ds : List PyData} {i : Nat} {d : PyData}, DvAll H vs ds → ds[i]? = some d → ∃ v, vs[i]? = some v ∧ Dv H v d
  | _, _, 0, _, .cons h _, e => by cases e; exact ⟨_, rfl, h⟩
  | _, _, i + 1, _, .cons _ h, e => h.mem (i := i) e
/-! data without lists -/
mutual
def noL : PyData → Bool
  | .list _ => false
  | .tuple ds => noLs ds
  | .dict _ => false
  | _ => true
def noLs : List PyData → Bool
  | [] => true
  | d :: ds => noL d && noLs ds
end
mutual
theorem Dv.mapT {H H' : Hp} (ht : ∀ a xs, H a = some (.tup xs) → H' a = some (.tup xs)) : ∀ (d : PyData) (v : V), noL d = true → Dv H v d → Dv H' v d
  | .none, _, _, h => by cases h; exact .non
  | .bool b, _, _, h => by cases h; exact .bl b
  | .int i, _, _, h => by cases h; exact .int i
  | .str x, _, _, h => by cases h; exact .str x
  | .list ds, _, g, h => by
    rw [noL] at g
    cases g
  | .tuple ds, _, g, h => by
    rw [noL] at g
    cases h with
    | tup h1 h2 => exact .tup (ht _ _ h1) (DvAll.mapT ht ds _ g h2)
  | .dict _, _, _, h => by cases h
theorem DvAll.mapT {H H' : Hp} (ht : ∀ a xs, H a = some (.tup xs) → H' a = some (.tup xs)) : ∀ (ds : List PyData) (vs : List V), noLs ds = true → DvAll H vs ds → DvAll H' vs ds
  | [], _, _, h => by cases h; exact .nil
  | d :: ds, _, g, h => by
    rw [noLs, Bool.and_eq_true] at g
    cases h with
    | cons h1 h2 => exact .cons (Dv.mapT ht d _ g.1 h1) (DvAll.mapT ht ds _ g.2 h2)
end
theorem noLs_mem : ∀ {ds : List PyData}, (∀ d ∈ ds, noL d = true) → noLs ds = true
  | [], _ => by rw [noLs]
  | d :: ds, h => by rw [noLs, h d List.mem_cons_self, noLs_mem fun e he => h e (List.mem_cons_of_mem _ he)]; rfl
/-- a list that is changed is in no such data -/
theorem Dv.putL {H : Hp} {v : V} {d : PyData} {D : Addr} {xs ys : List V} (h : Dv H v d) (n : noL d = true) (hD : H D = some (.lst xs)) : Dv (upd H D (.lst ys)) v d := Dv.mapT (fun a zs e => by rw [upd_ne (fun z => by rw [z, hD] at e; cases e)]; exact e) d v n h
theorem DvAll.putL {H : Hp} {v : List V} {d : List PyData} {D : Addr} {xs ys : List V} (h : DvAll H v d) (n : noLs d = true) (hD : H D = some (.lst xs)) : DvAll (upd H D (.lst ys)) v d := DvAll.mapT (fun a zs e => by rw [upd_ne (fun z => by rw [z, hD] at e; cases e)]; exact e) d v n h
open TL
/-! ### the plain law of forms: tables, the reader as a machine on words -/
def lets26 : Str := "abcdefghijklmnopqrstuvwxyz"
def formsT (due : Bool) : List (Str × List Str) := if due then numForms else thForms
def kindsOf (due : Bool) (w : Str) : Option (List Str) := ((formsT due).find? fun p => decide (p.1 = w)).map (·.2)
def isNm (z : Str) : Bool := decide (1 ≤ z.length ∧ z.length ≤ 12) && (!decide (z ∈ resW) && z.cps.toList.all (fun c => decide (c ∈ lets26.cps.toList)))
def known (k : Str) : List Str := ((knownT.find? fun p => decide (p.1 = k)).map (·.2)).getD []
/-- a word of a kind that is a name -/
def okS (k z : Str) : Bool := decide (z ∈ known k) || isNm z
def ltrN : List Nat := [97, 98, 99, 100]
def ltrX : List Nat := [120, 121, 122]
/-- the letters of a call -/
def prOk (z : Str) : Bool := decide (z.length ≤ 3) && (z.cps.toList.all (fun c => decide (c ∈ ltrN ++ ltrX)) && decide z.cps.toList.Nodup)
def prKinds (z : Str) : List Str := z.cps.toList.map fun c => if c ∈ ltrN then "N" else "X"
def strN (n : Nat) : Str := Str.ofString (toString ((n : Nat) : Int))
/-- a decimal: no more than five digits, no zero ahead -/
def isDec (z : Str) : Bool := decide (1 ≤ z.length ∧ z.length ≤ 5) && (z.cps.toList.all (fun c => decide (48 ≤ c ∧ c ≤ 57)) && (!decide (z.cps.toList.head? = some 48) || decide (z = "0")))
def valD (z : Str) : Nat := NumText.digitsVal z.cps.toList
/-- the ranges of the integers in forms -/
def rngK (k : Str) : Option (Nat × Nat) := if k = "integer" then some (0, 999) else if k = "chances" then some (1, 100) else none
/-- what a word is as a part of a kind -/
def takeS (k : Str) (w : Str) : Option PyData := match rngK k with
  | some (lo, hi) => if isDec w = true ∧ lo ≤ valD w ∧ valD w ≤ hi then some (.int (valD w : Nat)) else none
  | none => if k = "params" then (if w = "-" then some (.str "") else if w ≠ "" ∧ prOk w = true then some (.str w) else none)
    else if okS k w = true then some (.str w) else none
/-- a form that is being read: its head, what is due, its parts -/
structure Hf where
  hd : Str
  du : List Str
  ps : List PyData
def Hf.whole (h : Hf) : PyData := if h.hd = "call" then .tuple (.str "call" :: (h.ps.take 2 ++ [.tuple (h.ps.drop 2)])) else .tuple (.str h.hd :: h.ps)
inductive Ms
  | run (S : List Hf) (k : Nat)
  | done (d : PyData) (k : Nat)
  | err (k : Nat)
/-- the beginning of a form at a word -/
def begW (due : Bool) (w : Str) : Option Hf :=
  if due = true ∧ isDec w = true then (if valD w ≤ 999 then some ⟨"is", [], [.int (valD w : Nat)]⟩ else none)
  else match (if w = "is" ∨ w = "get" ∨ w = "at" then none else kindsOf due w) with
    | some ks => some ⟨w, ks.filter fun k => decide (k ≠ "forms"), []⟩
    | none => if okS (if due then "reading" else "pointed") w = true then some ⟨if due then "get" else "at", [], [.str w]⟩ else none
def beg (ws : List Str) (k : Nat) (due : Bool) : Option Hf := match ws[k]? with
  | none => none
  | some w => begW due w
def isF2 (k : Str) : Bool := decide (k = "N" ∨ k = "X")
def stp (ws : List Str) : List Hf → Nat → Ms
  | [], _ => .err 0
  | ⟨hd, [], ps⟩ :: S, k => match S with
    | [] => .done (Hf.whole ⟨hd, [], ps⟩) k
    | g :: S' => .run (⟨g.hd, g.du, g.ps ++ [Hf.whole ⟨hd, [], ps⟩]⟩ :: S') k
  | ⟨hd, kd :: r, ps⟩ :: S, k => if isF2 kd = true then (match beg ws k (decide (kd = "N")) with
      | some g => .run (g :: ⟨hd, r, ps⟩ :: S) (k + 1)
      | none => .err (k + 1))
    else match ws[k]?.bind (takeS kd) with
      | some d => .run (⟨hd, r ++ (match decide (kd = "params"), d with
        | true, .str z => prKinds z
        | _, _ => []), ps ++ [d]⟩ :: S) (k + 1)
      | none => .err (k + 1)
def go (ws : List Str) : Nat → List Hf → Nat → Ms
  | 0, S, k => .run S k
  | n + 1, S, k => match stp ws S k with
    | .run S' k' => go ws n S' k'
    | r => r
theorem go_run {ws : List Str} {S S' : List Hf} {k k' n : Nat} (h : stp ws S k = .run S' k') : go ws (n + 1) S k = go ws n S' k' := by
  show (match stp ws S k with | .run S' k' => go ws n S' k' | r => r) = _
  rw [h]
theorem go_err {ws : List Str} {S : List Hf} {k k' n : Nat} (h : stp ws S k = .err k') : go ws (n + 1) S k = .err k' := by
  show (match stp ws S k with | .run S' k' => go ws n S' k' | r => r) = _
  rw [h]
theorem go_done {ws : List Str} {S : List Hf} {k k' n : Nat} {d : PyData} (h : stp ws S k = .done d k') : go ws (n + 1) S k = .done d k' := by
  show (match stp ws S k with | .run S' k' => go ws n S' k' | r => r) = _
  rw [h]
/-- a form behind the others: it comes to its place -/
def att (ws : List Str) (m : Nat) (d : PyData) (k : Nat) : List Hf → Ms
  | [] => .done d k
  | g :: S => go ws m (⟨g.hd, g.du, g.ps ++ [d]⟩ :: S) k
theorem go_pop {ws : List Str} {hd : Str} {ps : List PyData} {S : List Hf} {k m : Nat} : go ws (m + 1) (⟨hd, [], ps⟩ :: S) k = att ws m (Hf.whole ⟨hd, [], ps⟩) k S := by
  cases S with
  | nil => exact go_done rfl
  | cons g S => exact go_run rfl
/-! ### the forms of the law -/
mutual
inductive Fm : Bool → Nat → PyData → List Str → Prop
  | is {lv i : Nat} : i ≤ 999 → Fm true lv (.tuple [.str "is", .int (i : Nat)]) [strN i]
  | get {lv : Nat} {z : Str} : okS "reading" z = true → Fm true lv (.tuple [.str "get", .str z]) [z]
  | at {lv : Nat} {z : Str} : okS "pointed" z = true → Fm false lv (.tuple [.str "at", .str z]) [z]
  | call {lv : Nat} {nm pr : Str} {ds : List PyData} {ws : List Str} : isNm nm = true → prOk pr = true → Pts lv (prKinds pr) ds ws → Fm true (lv + 1) (.tuple [.str "call", .str nm, .str pr, .tuple ds]) ("call" :: nm :: (if pr = "" then "-" else pr) :: ws)
  | nd {due : Bool} {lv : Nat} {h : Str} {ks : List Str} {ds : List PyData} {ws : List Str} : (h, ks) ∈ formsT due → h ≠ "is" → h ≠ "get" → h ≠ "at" → h ≠ "call" → Pts lv ks ds ws → Fm due (lv + 1) (.tuple (.str h :: ds)) (h :: ws)
inductive Pts : Nat → List Str → List PyData → List Str → Prop
  | nil {lv : Nat} : Pts lv [] [] []
  | sm {lv : Nat} {k w : Str} {ks : List Str} {d : PyData} {ds : List PyData} {ws : List Str} : isF2 k = false → k ≠ "params" → takeS k w = some d → Pts lv ks ds ws → Pts lv (k :: ks) (d :: ds) (w :: ws)
  | fm {lv : Nat} {k : Str} {ks : List Str} {d : PyData} {ds : List PyData} {w ws : List Str} : isF2 k = true → Fm (decide (k = "N")) lv d w → Pts lv ks ds ws → Pts lv (k :: ks) (d :: ds) (w ++ ws)
end
/-! ### facts of the tables -/
theorem heads_ok : ∀ due ∈ [true, false], ((formsT due).all fun p => decide (isDec p.1 = false) && (decide (kindsOf due p.1 = some p.2) && (decide (p.1 ∈ resW) && decide (p.1 ≠ "call" → ("forms" : Str) ∉ p.2 ∧ ("params" : Str) ∉ p.2)))) = true := by decide +kernel
theorem head_ok {due : Bool} {h : Str} {ks : List Str} (m : (h, ks) ∈ formsT due) : isDec h = false ∧ kindsOf due h = some ks ∧ h ∈ resW ∧ (h ≠ "call" → ("forms" : Str) ∉ ks ∧ ("params" : Str) ∉ ks) := by
  have := List.all_eq_true.mp (heads_ok due (by cases due <;> decide)) _ m
  simp only [Bool.and_eq_true, decide_eq_true_eq] at this
  exact ⟨this.1, this.2.1, this.2.2.1, this.2.2.2⟩
theorem kindsOf_none {due : Bool} {w : Str} (h : w ∉ resW) : kindsOf due w = none := by
  unfold kindsOf
  cases e : (formsT due).find? fun p => decide (p.1 = w) with
  | none => rfl
  | some p =>
    have h1 := List.mem_of_find?_eq_some e
    have h2 := List.find?_some e
    obtain ⟨a, b⟩ := p
    obtain rfl : a = w := of_decide_eq_true h2
    exact absurd (head_ok h1).2.2.1 h
theorem nm_parts {z : Str} (h : isNm z = true) : (1 ≤ z.length ∧ z.length ≤ 12) ∧ z ∉ resW ∧ ∀ c ∈ z.cps.toList, c ∈ lets26.cps.toList := by
  unfold isNm at h
  simp only [Bool.and_eq_true, decide_eq_true_eq, Bool.not_eq_true', decide_eq_false_iff_not, List.all_eq_true] at h
  exact ⟨h.1, h.2.1, h.2.2⟩
theorem let_rng : ∀ c ∈ lets26.cps.toList, 97 ≤ c ∧ c ≤ 122 := by decide +kernel
theorem len_pos {z : Str} (h : 1 ≤ z.length) : ∃ c, c ∈ z.cps.toList := by
  have e : z.length = z.cps.toList.length := rfl
  cases q : z.cps.toList with
  | nil => rw [e, q] at h; exact absurd h (by decide)
  | cons c r => exact ⟨c, List.mem_cons_self⟩
theorem dec_parts {z : Str} (h : isDec z = true) : (1 ≤ z.length ∧ z.length ≤ 5) ∧ (∀ c ∈ z.cps.toList, 48 ≤ c ∧ c ≤ 57) ∧ (z.cps.toList.head? = some 48 → z = "0") := by
  unfold isDec at h
  simp only [Bool.and_eq_true, decide_eq_true_eq, Bool.or_eq_true, Bool.not_eq_true', decide_eq_false_iff_not, List.all_eq_true] at h
  exact ⟨h.1, h.2.1, fun e => h.2.2.elim (fun n => absurd e n) id⟩
theorem nm_nodec {z : Str} (h : isNm z = true) : isDec z = false := by
  cases e : isDec z with
  | false => rfl
  | true =>
    obtain ⟨h1, _, h3⟩ := nm_parts h
    obtain ⟨c, hc⟩ := len_pos h1.1
    have a := let_rng c (h3 c hc)
    have b := (dec_parts e).2.1 c hc
    omega
theorem rd_known : ∀ z ∈ known "reading", isDec z = false ∧ kindsOf true z = none := by decide +kernel
theorem pt_known : ∀ z ∈ known "pointed", kindsOf false z = none := by decide +kernel
theorem okS_cases {k z : Str} (h : okS k z = true) : z ∈ known k ∨ isNm z = true := by
  unfold okS at h
  simp only [Bool.or_eq_true, decide_eq_true_eq] at h
  exact h
theorem beg_get {z : Str} (h : okS "reading" z = true) : begW true z = some ⟨"get", [], [.str z]⟩ := by
  have hk : isDec z = false ∧ kindsOf true z = none := (okS_cases h).elim (rd_known z) fun n => ⟨nm_nodec n, kindsOf_none (nm_parts n).2.1⟩
  unfold begW
  rw [if_neg (fun e => by rw [hk.1] at e; cases e.2), hk.2, ite_self]
  simp only [if_true, h]
theorem beg_at {z : Str} (h : okS "pointed" z = true) : begW false z = some ⟨"at", [], [.str z]⟩ := by
  have hk : kindsOf false z = none := (okS_cases h).elim (pt_known z) fun n => kindsOf_none (nm_parts n).2.1
  unfold begW
  rw [if_neg (fun e => by cases e.1), hk, ite_self]
  simp only [Bool.false_eq_true, if_false, h, if_true]
theorem beg_head {due : Bool} {h : Str} {ks : List Str} (m : (h, ks) ∈ formsT due) (h1 : h ≠ "is") (h2 : h ≠ "get") (h3 : h ≠ "at") : begW due h = some ⟨h, ks.filter fun k => decide (k ≠ "forms"), []⟩ := by
  obtain ⟨a, b, _⟩ := head_ok m
  unfold begW
  rw [if_neg (fun e => by rw [a] at e; cases e.2), b, if_neg (fun e => e.elim h1 (fun e => e.elim h2 h3))]
theorem strN_tl (i : Nat) : (strN i).cps.toList = numL i := tl_num i
theorem dec_num : ∀ i < 1000, (1 ≤ (numL i).length ∧ (numL i).length ≤ 5) ∧ ((numL i).head? = some 48 → i = 0) := by decide +kernel
theorem str_ext {a b : Str} (h : a.cps.toList = b.cps.toList) : a = b := by
  obtain ⟨⟨a⟩⟩ := a
  obtain ⟨⟨b⟩⟩ := b
  have : a = b := h
  rw [this]
theorem strN_dec {i : Nat} (h : i ≤ 999) : isDec (strN i) = true := by
  obtain ⟨h1, h2⟩ := dec_num i (by omega)
  unfold isDec
  have e : (strN i).length = (numL i).length := by rw [← strN_tl]; rfl
  rw [e, strN_tl]
  simp only [Bool.and_eq_true, decide_eq_true_eq, Bool.or_eq_true, Bool.not_eq_true', decide_eq_false_iff_not, List.all_eq_true]
  refine ⟨h1, fun c hc => ?_, ?_⟩
  · have := numL_digits i c hc
    omega
  · by_cases q : (numL i).head? = some 48
    · right
      rw [h2 q]
      decide +kernel
    · exact .inl q
theorem strN_val (i : Nat) : valD (strN i) = i := by
  unfold valD
  rw [strN_tl]
  exact numL_val i
theorem beg_is {i : Nat} (h : i ≤ 999) : begW true (strN i) = some ⟨"is", [], [.int (i : Nat)]⟩ := by
  unfold begW
  rw [if_pos ⟨rfl, strN_dec h⟩, strN_val, if_pos h]
/-! ### a form's words are read -/
def Mt (ws : List Str) (k : Nat) (w : List Str) : Prop := ∀ i, i < w.length → ws[k + i]? = w[i]?
theorem Mt.head {ws : List Str} {k : Nat} {a : Str} {w : List Str} (h : Mt ws k (a :: w)) : ws[k]? = some a := h 0 (Nat.succ_pos _)
theorem Mt.tail {ws : List Str} {k : Nat} {a : Str} {w : List Str} (h : Mt ws k (a :: w)) : Mt ws (k + 1) w := fun i hi => by
  have := h (i + 1) (Nat.succ_lt_succ hi)
  rw [show k + 1 + i = k + (i + 1) by omega]
  exact this
theorem Mt.left {ws : List Str} {k : Nat} {a w : List Str} (h : Mt ws k (a ++ w)) : Mt ws k a := fun i hi => by
  rw [h i (by rw [List.length_append]; omega), List.getElem?_append_left hi]
theorem Mt.right {ws : List Str} {k : Nat} {a w : List Str} (h : Mt ws k (a ++ w)) : Mt ws (k + a.length) w := fun i hi => by
  rw [Nat.add_assoc, h (a.length + i) (by rw [List.length_append]; omega), List.getElem?_append_right (by omega)]
  congr 1
  omega
theorem take_nm {k z : Str} (hr : rngK k = none) (hp : k ≠ "params") (h : okS k z = true) : takeS k z = some (.str z) := by
  unfold takeS
  rw [hr]
  dsimp only
  rw [if_neg hp, if_pos h]
theorem pr_dash : prOk "-" = false := by decide +kernel
theorem take_pr {pr : Str} (h : prOk pr = true) : takeS "params" (if pr = "" then "-" else pr) = some (.str pr) := by
  unfold takeS
  rw [show rngK "params" = none by decide +kernel]
  dsimp only
  rw [if_pos rfl]
  by_cases e : pr = ""
  · rw [if_pos e, if_pos rfl, e]
  · rw [if_neg e, if_neg (fun q => by rw [q, pr_dash] at h; cases h), if_pos ⟨e, h⟩]
theorem stp_small {ws : List Str} {hd kd : Str} {ks : List Str} {ps : List PyData} {S : List Hf} {k : Nat} (f2 : isF2 kd = false) (h : ws[k]?.bind (takeS kd) = none) : stp ws (⟨hd, kd :: ks, ps⟩ :: S) k = .err (k + 1) := by
  show (if isF2 kd = true then _ else match ws[k]?.bind (takeS kd) with
    | some d => Ms.run (⟨hd, ks ++ (match decide (kd = "params"), d with
      | true, .str z => prKinds z
      | _, _ => []), ps ++ [d]⟩ :: S) (k + 1)
    | none => .err (k + 1)) = _
  rw [f2, if_neg Bool.false_ne_true, h]
theorem stp_form {ws : List Str} {hd kd : Str} {ks : List Str} {ps : List PyData} {S : List Hf} {k : Nat} (f2 : isF2 kd = true) (h : beg ws k (decide (kd = "N")) = none) : stp ws (⟨hd, kd :: ks, ps⟩ :: S) k = .err (k + 1) := by
  show (if isF2 kd = true then (match beg ws k (decide (kd = "N")) with
    | some g => Ms.run (g :: ⟨hd, ks, ps⟩ :: S) (k + 1)
    | none => .err (k + 1)) else _) = _
  rw [if_pos f2, h]
theorem stp_smallK {ws : List Str} {hd kd w : Str} {ks : List Str} {ps : List PyData} {S : List Hf} {k : Nat} {d : PyData} (f2 : isF2 kd = false) (np : kd ≠ "params") (hw : ws[k]? = some w) (ht : takeS kd w = some d) : stp ws (⟨hd, kd :: ks, ps⟩ :: S) k = .run (⟨hd, ks, ps ++ [d]⟩ :: S) (k + 1) := by
  show (if isF2 kd = true then _ else match ws[k]?.bind (takeS kd) with
    | some d => Ms.run (⟨hd, ks ++ (match decide (kd = "params"), d with
      | true, .str z => prKinds z
      | _, _ => []), ps ++ [d]⟩ :: S) (k + 1)
    | none => .err (k + 1)) = _
  rw [f2, if_neg Bool.false_ne_true, hw, Option.bind_some, ht]
  dsimp only
  rw [decide_eq_false np]
  dsimp only
  rw [List.append_nil]
theorem stp_formK {ws : List Str} {hd kd : Str} {ks : List Str} {ps : List PyData} {S : List Hf} {k : Nat} {g : Hf} (f2 : isF2 kd = true) (h : beg ws k (decide (kd = "N")) = some g) : stp ws (⟨hd, kd :: ks, ps⟩ :: S) k = .run (g :: ⟨hd, ks, ps⟩ :: S) (k + 1) := by
  show (if isF2 kd = true then (match beg ws k (decide (kd = "N")) with
    | some g => Ms.run (g :: ⟨hd, ks, ps⟩ :: S) (k + 1)
    | none => .err (k + 1)) else _) = _
  rw [if_pos f2, h]
theorem stp_params {ws : List Str} {hd pr : Str} {ps : List PyData} {S : List Hf} {k : Nat} (hw : ws[k]? = some (if pr = "" then ("-" : Str) else pr)) (hp : prOk pr = true) : stp ws (⟨hd, ["params"], ps⟩ :: S) k = .run (⟨hd, prKinds pr, ps ++ [.str pr]⟩ :: S) (k + 1) := by
  show (if isF2 ("params" : Str) = true then (match beg ws k (decide (("params" : Str) = "N")) with
    | some g => Ms.run (g :: ⟨hd, [], ps⟩ :: S) (k + 1)
    | none => .err (k + 1)) else match ws[k]?.bind (takeS "params") with
    | some d => Ms.run (⟨hd, ([] : List Str) ++ (match decide (("params" : Str) = "params"), d with
      | true, .str z => prKinds z
      | _, _ => []), ps ++ [d]⟩ :: S) (k + 1)
    | none => .err (k + 1)) = _
  rw [if_neg (by decide +kernel), hw, Option.bind_some, take_pr hp]
  dsimp only
  rw [decide_eq_true rfl]
  rfl
def FmGo (lv : Nat) : Prop := ∀ {due : Bool} {d : PyData} {w : List Str}, Fm due lv d w → ∀ (ws : List Str) (k : Nat), Mt ws k w → ∃ g n, beg ws k due = some g ∧ ∀ (S : List Hf) (m : Nat), go ws (n + m) (g :: S) (k + 1) = att ws m d (k + w.length) S
theorem beg_of {ws : List Str} {k : Nat} {due : Bool} {w : Str} (h : ws[k]? = some w) : beg ws k due = begW due w := by
  unfold beg
  rw [h]
theorem pts_go {lv : Nat} (P : FmGo lv) : ∀ {ks : List Str} {ds : List PyData} {w : List Str}, Pts lv ks ds w → ∀ (ws : List Str) (k : Nat), Mt ws k w → ∃ n, ∀ (hd : Str) (ps : List PyData) (S : List Hf) (m : Nat), go ws (n + m) (⟨hd, ks, ps⟩ :: S) k = go ws m (⟨hd, [], ps ++ ds⟩ :: S) (k + w.length)
  | [], _, _, h, ws, k, _ => by
    cases h
    exact ⟨0, fun hd ps S m => by rw [Nat.zero_add, List.append_nil]; rfl⟩
  | kd :: ks, _, _, h, ws, k, hm => by
    cases h with
    | @sm _ _ w _ d ds wr f2 np ht hr =>
      obtain ⟨n, hn⟩ := pts_go P hr ws (k + 1) hm.tail
      refine ⟨n + 1, fun hd ps S m => ?_⟩
      have e := stp_smallK (hd := hd) (ks := ks) (ps := ps) (S := S) f2 np hm.head ht
      rw [show n + 1 + m = (n + m) + 1 by omega, go_run e, hn, List.append_assoc, List.length_cons]
      rw [show k + 1 + wr.length = k + (wr.length + 1) by omega]
      rfl
    | @fm _ _ _ d ds w wr f2 hf hr =>
      obtain ⟨g, n1, hb, h1⟩ := P hf ws k hm.left
      obtain ⟨n2, h2⟩ := pts_go P hr ws (k + w.length) hm.right
      refine ⟨n1 + n2 + 1, fun hd ps S m => ?_⟩
      have e := stp_formK (hd := hd) (ks := ks) (ps := ps) (S := S) f2 hb
      rw [show n1 + n2 + 1 + m = (n1 + (n2 + m)) + 1 by omega, go_run e, h1]
      show go ws (n2 + m) (⟨hd, ks, ps ++ [d]⟩ :: S) (k + w.length) = _
      rw [h2, List.append_assoc, List.length_append, Nat.add_assoc]
      rfl
theorem call_tab : (("call" : Str), (["routine", "params", "forms"] : List Str)) ∈ formsT true := by decide +kernel
theorem call_fil : (["routine", "params", "forms"] : List Str).filter (fun k => decide (k ≠ ("forms" : Str))) = (["routine", "params"] : List Str) := by decide +kernel
theorem fm_go : ∀ lv, FmGo lv := by
  intro lv
  induction lv with
  | zero =>
    intro due d w h ws k hm
    cases h with
    | @is _ i hi => exact ⟨_, 1, (beg_of hm.head).trans (beg_is hi), fun S m => by rw [Nat.add_comm 1 m]; exact go_pop⟩
    | @get _ z hz => exact ⟨_, 1, (beg_of hm.head).trans (beg_get hz), fun S m => by rw [Nat.add_comm 1 m]; exact go_pop⟩
    | @«at» _ z hz => exact ⟨_, 1, (beg_of hm.head).trans (beg_at hz), fun S m => by rw [Nat.add_comm 1 m]; exact go_pop⟩
  | succ lv ih =>
    intro due d w h ws k hm
    cases h with
    | @is _ i hi => exact ⟨_, 1, (beg_of hm.head).trans (beg_is hi), fun S m => by rw [Nat.add_comm 1 m]; exact go_pop⟩
    | @get _ z hz => exact ⟨_, 1, (beg_of hm.head).trans (beg_get hz), fun S m => by rw [Nat.add_comm 1 m]; exact go_pop⟩
    | @«at» _ z hz => exact ⟨_, 1, (beg_of hm.head).trans (beg_at hz), fun S m => by rw [Nat.add_comm 1 m]; exact go_pop⟩
    | @call _ nm pr ds wr hn hp hr =>
      obtain ⟨n, hgo⟩ := pts_go ih hr ws (k + 1 + 1 + 1) hm.tail.tail.tail
      refine ⟨_, n + 3, (beg_of hm.head).trans (beg_head call_tab (by decide) (by decide) (by decide)), fun S m => ?_⟩
      rw [call_fil]
      have e1 : stp ws (⟨"call", ["routine", "params"], []⟩ :: S) (k + 1) = .run (⟨"call", ["params"], [.str nm]⟩ :: S) (k + 1 + 1) := stp_smallK (ps := []) (by decide +kernel) (by decide) hm.tail.head (take_nm (by decide +kernel) (by decide) (by unfold okS; rw [hn, Bool.or_true]))
      have e2 : stp ws (⟨"call", ["params"], [.str nm]⟩ :: S) (k + 1 + 1) = .run (⟨"call", prKinds pr, [.str nm, .str pr]⟩ :: S) (k + 1 + 1 + 1) := stp_params hm.tail.tail.head hp
      rw [show n + 3 + m = (n + (m + 1) + 1) + 1 by omega, go_run e1, go_run e2, hgo, go_pop]
      show att ws m (.tuple (.str "call" :: ([.str nm, .str pr] ++ [.tuple ds]))) _ S = _
      simp only [List.length_cons]
      rw [show k + 1 + 1 + 1 + wr.length = k + (wr.length + 1 + 1 + 1) by omega]
      rfl
    | @nd _ _ h ks ds wr ht h1 h2 h3 h4 hr =>
      obtain ⟨n, hgo⟩ := pts_go ih hr ws (k + 1) hm.tail
      have hf : ks.filter (fun k => decide (k ≠ ("forms" : Str))) = ks := List.filter_eq_self.mpr fun x hx => decide_eq_true fun e => ((head_ok ht).2.2.2 h4).1 (e ▸ hx)
      refine ⟨_, n + 1, (beg_of hm.head).trans (beg_head ht h1 h2 h3), fun S m => ?_⟩
      rw [hf, show n + 1 + m = n + (m + 1) by omega, hgo, go_pop]
      have e : Hf.whole ⟨h, [], [] ++ ds⟩ = .tuple (.str h :: ds) := by
        unfold Hf.whole
        rw [if_neg h4]
        rfl
      rw [e, List.length_cons, show k + 1 + wr.length = k + (wr.length + 1) by omega]
/-! ### a word that cannot stand there -/
structure Odd (w : Str) : Prop where
  bg : ∀ due, begW due w = none
  tk : ∀ k, takeS k w = none
def BadAt (ws : List Str) (p : Nat) : Prop := ∀ w, ws[p]? = some w → Odd w
theorem BadAt.beg {ws : List Str} {p : Nat} (h : BadAt ws p) (due : Bool) : beg ws p due = none := by
  unfold K39.beg
  cases e : ws[p]? with
  | none => rfl
  | some w => exact (h w e).bg due
theorem BadAt.take {ws : List Str} {p : Nat} (h : BadAt ws p) (k : Str) : ws[p]?.bind (takeS k) = none := by
  cases e : ws[p]? with
  | none => rfl
  | some w => exact (h w e).tk k
/-- the first j words are those of w, the next is bad -/
structure Cut (ws : List Str) (k j : Nat) (w : List Str) : Prop where
  lt : j < w.length
  pre : ∀ i, i < j → ws[k + i]? = w[i]?
  bad : BadAt ws (k + j)
theorem Cut.tail {ws : List Str} {k j : Nat} {a : Str} {w : List Str} (h : Cut ws k (j + 1) (a :: w)) : ws[k]? = some a ∧ Cut ws (k + 1) j w := by
  refine ⟨h.pre 0 (Nat.succ_pos _), Nat.lt_of_succ_lt_succ h.lt, fun i hi => ?_, ?_⟩
  · rw [show k + 1 + i = k + (i + 1) by omega]
    exact h.pre (i + 1) (by omega)
  · rw [show k + 1 + j = k + (j + 1) by omega]
    exact h.bad
theorem Cut.left {ws : List Str} {k j : Nat} {a w : List Str} (h : Cut ws k j (a ++ w)) (hj : j < a.length) : Cut ws k j a := ⟨hj, fun i hi => by rw [h.pre i hi, List.getElem?_append_left (by omega)], h.bad⟩
theorem Cut.right {ws : List Str} {k j : Nat} {a w : List Str} (h : Cut ws k j (a ++ w)) (hj : a.length ≤ j) : Mt ws k a ∧ Cut ws (k + a.length) (j - a.length) w := by
  have hl := h.lt
  rw [List.length_append] at hl
  refine ⟨fun i hi => by rw [h.pre i (by omega), List.getElem?_append_left hi], by omega, fun i hi => ?_, ?_⟩
  · rw [Nat.add_assoc, h.pre _ (by omega), List.getElem?_append_right (by omega)]
    congr 1
    omega
  · rw [show k + a.length + (j - a.length) = k + j by omega]
    exact h.bad
def FmErr (lv : Nat) : Prop := ∀ {due : Bool} {d : PyData} {w : List Str}, Fm due lv d w → ∀ (ws : List Str) (k j : Nat), Cut ws k j w → (j = 0 ∧ beg ws k due = none) ∨ ∃ g n, beg ws k due = some g ∧ ∀ (S : List Hf) (m : Nat), go ws (n + m) (g :: S) (k + 1) = .err (k + j + 1)
theorem pts_err {lv : Nat} (P : FmErr lv) : ∀ {ks : List Str} {ds : List PyData} {w : List Str}, Pts lv ks ds w → ∀ (ws : List Str) (k j : Nat), Cut ws k j w → ∃ n, ∀ (hd : Str) (ps : List PyData) (S : List Hf) (m : Nat), go ws (n + m) (⟨hd, ks, ps⟩ :: S) k = .err (k + j + 1)
  | [], _, _, h, ws, k, j, c => by
    cases h
    exact absurd c.lt (Nat.not_lt_zero _)
  | kd :: ks, _, _, h, ws, k, j, c => by
    cases h with
    | @sm _ _ w _ d ds wr f2 np ht hr =>
      cases j with
      | zero => exact ⟨1, fun hd ps S m => by rw [Nat.add_comm 1 m]; exact go_err (stp_small f2 (c.bad.take kd))⟩
      | succ j =>
        obtain ⟨hw, c'⟩ := c.tail
        obtain ⟨n, hn⟩ := pts_err P hr ws (k + 1) j c'
        refine ⟨n + 1, fun hd ps S m => ?_⟩
        rw [show n + 1 + m = (n + m) + 1 by omega, go_run (stp_smallK f2 np hw ht), hn]
        congr 1
        omega
    | @fm _ _ _ d ds w wr f2 hf hr =>
      by_cases hj : j < w.length
      · rcases P hf ws k j (c.left hj) with ⟨rfl, hb⟩ | ⟨g, n, hb, hg⟩
        · exact ⟨1, fun hd ps S m => by rw [Nat.add_comm 1 m]; exact go_err (stp_form f2 hb)⟩
        · exact ⟨n + 1, fun hd ps S m => by rw [show n + 1 + m = (n + m) + 1 by omega, go_run (stp_formK f2 hb), hg]⟩
      · obtain ⟨mt, c'⟩ := c.right (Nat.le_of_not_lt hj)
        obtain ⟨g, n1, hb, h1⟩ := fm_go lv hf ws k mt
        obtain ⟨n2, h2⟩ := pts_err P hr ws (k + w.length) (j - w.length) c'
        refine ⟨n1 + n2 + 1, fun hd ps S m => ?_⟩
        rw [show n1 + n2 + 1 + m = (n1 + (n2 + m)) + 1 by omega, go_run (stp_formK f2 hb), h1]
        show go ws (n2 + m) (⟨hd, ks, ps ++ [d]⟩ :: S) (k + w.length) = _
        rw [h2]
        congr 1
        omega
theorem fm_err : ∀ lv, FmErr lv := by
  have one : ∀ {lv : Nat} {due : Bool} {z : Str} (ws : List Str) (k j : Nat), Cut ws k j [z] → (j = 0 ∧ beg ws k due = none) := fun ws k j c => by
    have hj : j = 0 := by have := c.lt; rw [List.length_singleton] at this; omega
    subst hj
    exact ⟨rfl, c.bad.beg _⟩
  intro lv
  induction lv with
  | zero =>
    intro due d w h ws k j c
    cases h with
    | is hi => exact .inl (one (lv := 0) ws k j c)
    | get hz => exact .inl (one (lv := 0) ws k j c)
    | «at» hz => exact .inl (one (lv := 0) ws k j c)
  | succ lv ih =>
    intro due d w h ws k j c
    cases h with
    | is hi => exact .inl (one (lv := 0) ws k j c)
    | get hz => exact .inl (one (lv := 0) ws k j c)
    | «at» hz => exact .inl (one (lv := 0) ws k j c)
    | @call _ nm pr ds wr hn hp hr =>
      cases j with
      | zero => exact .inl ⟨rfl, c.bad.beg _⟩
      | succ j =>
        obtain ⟨hw, c1⟩ := c.tail
        refine .inr ?_
        have hb : beg ws k true = some ⟨"call", ["routine", "params"], []⟩ := (beg_of hw).trans ((beg_head call_tab (by decide) (by decide) (by decide)).trans (by rw [call_fil]))
        cases j with
        | zero => exact ⟨_, 1, hb, fun S m => by rw [Nat.add_comm 1 m]; exact go_err (stp_small (by decide +kernel) (c1.bad.take _))⟩
        | succ j =>
          obtain ⟨hw1, c2⟩ := c1.tail
          have e1 : ∀ S, stp ws (⟨"call", ["routine", "params"], []⟩ :: S) (k + 1) = .run (⟨"call", ["params"], [.str nm]⟩ :: S) (k + 1 + 1) := fun S => stp_smallK (ps := []) (by decide +kernel) (by decide) hw1 (take_nm (by decide +kernel) (by decide) (by unfold okS; rw [hn, Bool.or_true]))
          cases j with
          | zero => exact ⟨_, 2, hb, fun S m => by rw [show 2 + m = (m + 1) + 1 by omega, go_run (e1 S), go_err (stp_small (by decide +kernel) (c2.bad.take _))]⟩
          | succ j =>
            obtain ⟨hw2, c3⟩ := c2.tail
            obtain ⟨n, hgo⟩ := pts_err ih hr ws (k + 1 + 1 + 1) j c3
            refine ⟨_, n + 2, hb, fun S m => ?_⟩
            have e2 : stp ws (⟨"call", ["params"], [.str nm]⟩ :: S) (k + 1 + 1) = .run (⟨"call", prKinds pr, [.str nm, .str pr]⟩ :: S) (k + 1 + 1 + 1) := stp_params hw2 hp
            rw [show n + 2 + m = (n + m + 1) + 1 by omega, go_run (e1 S), go_run e2, hgo]
            congr 1
            omega
    | @nd _ _ h ks ds wr ht h1 h2 h3 h4 hr =>
      cases j with
      | zero => exact .inl ⟨rfl, c.bad.beg _⟩
      | succ j =>
        obtain ⟨hw, c1⟩ := c.tail
        obtain ⟨n, hgo⟩ := pts_err ih hr ws (k + 1) j c1
        have hf : ks.filter (fun k => decide (k ≠ ("forms" : Str))) = ks := List.filter_eq_self.mpr fun x hx => decide_eq_true fun e => ((head_ok ht).2.2.2 h4).1 (e ▸ hx)
        refine .inr ⟨_, n, (beg_of hw).trans ((beg_head ht h1 h2 h3).trans (by rw [hf])), fun S m => ?_⟩
        rw [hgo]
        congr 1
        omega
/-! ### odd words -/
def allKnown : List Str := knownT.flatMap (·.2)
theorem known_all {k z : Str} (h : z ∈ known k) : z ∈ allKnown := by
  unfold known at h
  cases e : knownT.find? fun p => decide (p.1 = k) with
  | none => rw [e] at h; cases h
  | some p =>
    rw [e] at h
    exact List.mem_flatMap.mpr ⟨p, List.mem_of_find?_eq_some e, h⟩
theorem odd_of {w : Str} (h1 : isDec w = false) (h2 : ∀ due, kindsOf due w = none) (h3 : w ∉ allKnown) (h4 : isNm w = false) (h5 : w ≠ "-") (h6 : w ≠ "" → prOk w = false) : Odd w := by
  have ok : ∀ k, okS k w = false := fun k => by
    unfold okS
    rw [h4, decide_eq_false (fun z => h3 (known_all z))]
    rfl
  refine ⟨fun due => ?_, fun k => ?_⟩
  · unfold begW
    rw [if_neg (fun e => by rw [h1] at e; cases e.2), h2, ite_self]
    dsimp only
    rw [ok, if_neg Bool.false_ne_true]
  · unfold takeS
    split
    · rw [if_neg (fun e => by rw [h1] at e; cases e.1)]
    · by_cases hp : k = "params"
      · rw [if_pos hp, if_neg h5, if_neg (fun e => by rw [h6 e.1] at e; cases e.2)]
      · rw [if_neg hp, ok, if_neg Bool.false_ne_true]
def oddB (w : Str) : Bool := !isDec w && (decide (kindsOf true w = none) && (decide (kindsOf false w = none) && (!decide (w ∈ allKnown) && (!isNm w && (!decide (w = "-") && (decide (w = "") || !prOk w))))))
theorem oddB_ok {w : Str} (h : oddB w = true) : Odd w := by
  unfold oddB at h
  simp only [Bool.and_eq_true, Bool.not_eq_true', decide_eq_true_eq, decide_eq_false_iff_not, Bool.or_eq_true] at h
  obtain ⟨h1, h2, h3, h4, h5, h6, h7⟩ := h
  exact odd_of h1 (fun due => by cases due <;> assumption) h4 h5 h6 fun e => h7.elim (fun z => absurd z e) id
def oddWs : List Str := (["Zz", "!", "a'b", "end", "say", "abcdefghijklm", "", "\t"] : List Str)
theorem oddWs_ok {w : Str} (h : w ∈ oddWs) : Odd w := oddB_ok (List.all_eq_true.mp (show oddWs.all oddB = true by decide +kernel) w h)
theorem res_noq : (resW ++ allKnown).all (fun w => decide (w.cps.toList.head? ≠ some 34)) = true := by decide +kernel
theorem heads_res {due : Bool} {w : Str} (h : kindsOf due w ≠ none) : w ∈ resW := by
  by_cases m : w ∈ resW
  · exact m
  · exact absurd (kindsOf_none m) h
theorem mem_head {z : Str} {c : Nat} (h : z.cps.toList.head? = some c) : c ∈ z.cps.toList := by
  cases e : z.cps.toList with
  | nil => rw [e] at h; cases h
  | cons a r => rw [e] at h; cases h; exact List.mem_cons_self
theorem quote_odd {w : Str} (h : w.cps.toList.head? = some 34) : Odd w := by
  have hr := List.all_eq_true.mp res_noq
  refine odd_of ?_ (fun due => ?_) (fun m => ?_) ?_ ?_ fun _ => ?_
  · cases e : isDec w with
    | false => rfl
    | true => exact absurd ((dec_parts e).2.1 34 (mem_head h)).1 (by decide)
  · cases e : kindsOf due w with
    | none => rfl
    | some ks => exact absurd h (of_decide_eq_true (hr w (List.mem_append.mpr (.inl (heads_res (due := due) (by rw [e]; exact fun z => nomatch z))))))
  · exact absurd h (of_decide_eq_true (hr w (List.mem_append.mpr (.inr m))))
  · cases e : isNm w with
    | false => rfl
    | true => exact absurd (let_rng 34 ((nm_parts e).2.2 34 (mem_head h))).1 (by decide)
  · rintro rfl
    exact absurd h (by decide +kernel)
  · cases e : prOk w with
    | false => rfl
    | true =>
      unfold prOk at e
      simp only [Bool.and_eq_true, List.all_eq_true, decide_eq_true_eq] at e
      exact absurd (e.2.1 34 (mem_head h)) (by decide)
/-- a word that begins no form -/
def startBad : List Str := (["is", "get", "at", "00", "01", "1000", "-1", "+1", "1a", "A", "30000", "99999999"] : List Str)
theorem start_bad {w : Str} (h : w ∈ startBad) (due : Bool) : begW due w = none := by
  have := List.all_eq_true.mp (show startBad.all (fun w => (begW true w).isNone && (begW false w).isNone) = true by decide +kernel) w h
  rw [Bool.and_eq_true] at this
  cases due
  · exact Option.isNone_iff_eq_none.mp this.2
  · exact Option.isNone_iff_eq_none.mp this.1
/-! ### the other kind -/
theorem other_heads : ∀ due ∈ [true, false], ((formsT due).all fun p => decide (p.1 = "is" ∨ p.1 = "get" ∨ p.1 = "at") || (begW (!due) p.1).isNone) = true := by decide +kernel
theorem rd_other : (known "reading").all (fun z => decide (z ∈ resW) && (begW false z).isNone) = true := by decide +kernel
theorem pt_other : (known "pointed").all (fun z => decide (z ∈ resW) && (begW true z).isNone) = true := by decide +kernel
theorem res_let : resW.all (fun w => decide (1 ≤ w.length) && w.cps.toList.all fun c => decide (97 ≤ c ∧ c ≤ 122)) = true := by decide +kernel
theorem res_chars {w : Str} (h : w ∈ resW) : 1 ≤ w.length ∧ ∀ c ∈ w.cps.toList, 97 ≤ c ∧ c ≤ 122 := by
  have := List.all_eq_true.mp res_let w h
  simp only [Bool.and_eq_true, decide_eq_true_eq, List.all_eq_true] at this
  exact this
theorem dec_nores {w : Str} (h : isDec w = true) : w ∉ resW := fun m => by
  obtain ⟨c, hc⟩ := len_pos (res_chars m).1
  have a := (res_chars m).2 c hc
  have b := (dec_parts h).2.1 c hc
  omega
theorem pt_res : (known "pointed").all (fun z => decide (z ∈ resW)) = true := by decide +kernel
theorem beg_decX {w : Str} (h : isDec w = true) : begW false w = none := by
  have hk : okS "pointed" w = false := by
    cases e : okS "pointed" w with
    | false => rfl
    | true => exact (okS_cases e).elim (fun m => absurd (of_decide_eq_true (List.all_eq_true.mp pt_res w m)) (dec_nores h)) fun n => by rw [nm_nodec n] at h; cases h
  unfold begW
  rw [if_neg (fun e => by cases e.1), kindsOf_none (dec_nores h), ite_self]
  dsimp only
  simp only [Bool.false_eq_true, if_false, hk]
/-- what the other kind makes of a form's words -/
inductive Oth (due : Bool) (d : PyData) (w : List Str) : Prop
  | read (z : Str) : w = [z] → z ∉ resW → d = .tuple [.str (if due then "get" else "at"), .str z] → begW (!due) z = some ⟨if due then "at" else "get", [], [.str z]⟩ → Oth due d w
  | kept (z : Str) : w = [z] → z ∈ resW → d = .tuple [.str (if due then "get" else "at"), .str z] → begW (!due) z = none → Oth due d w
  | bad (h : Str) (r : List PyData) (v : List Str) (a : Str) : d = .tuple (.str h :: r) → h ≠ "get" → h ≠ "at" → w = a :: v → begW (!due) a = none → Oth due d w
theorem fm_other {due : Bool} {lv : Nat} {d : PyData} {w : List Str} (h : Fm due lv d w) : Oth due d w := by
  cases h with
  | @is _ i hi => exact .bad "is" _ _ _ rfl (by decide) (by decide) rfl (beg_decX (strN_dec hi))
  | @get _ z hz =>
    rcases okS_cases hz with m | n
    · have := List.all_eq_true.mp rd_other z m
      rw [Bool.and_eq_true, decide_eq_true_eq] at this
      exact .kept z rfl this.1 rfl (Option.isNone_iff_eq_none.mp this.2)
    · exact .read z rfl (nm_parts n).2.1 rfl (beg_at (by unfold okS; rw [n, Bool.or_true]))
  | @«at» _ z hz =>
    rcases okS_cases hz with m | n
    · have := List.all_eq_true.mp pt_other z m
      rw [Bool.and_eq_true, decide_eq_true_eq] at this
      exact .kept z rfl this.1 rfl (Option.isNone_iff_eq_none.mp this.2)
    · exact .read z rfl (nm_parts n).2.1 rfl (beg_get (by unfold okS; rw [n, Bool.or_true]))
  | @call lv nm pr ds wr hn hp hr =>
    refine .bad "call" _ _ _ rfl (by decide) (by decide) rfl ?_
    have := List.all_eq_true.mp (other_heads true (by decide)) _ call_tab
    rw [Bool.or_eq_true, decide_eq_true_eq] at this
    exact this.elim (fun e => absurd e (by decide)) Option.isNone_iff_eq_none.mp
  | @nd _ lv h ks ds wr ht h1 h2 h3 h4 hr =>
    refine .bad h _ _ _ rfl h2 h3 rfl ?_
    have := List.all_eq_true.mp (other_heads due (by cases due <;> decide)) _ ht
    rw [Bool.or_eq_true, decide_eq_true_eq] at this
    exact this.elim (fun e => absurd e (fun e => e.elim h1 fun e => e.elim h2 h3)) Option.isNone_iff_eq_none.mp
/-! ### lines and words -/
def startsQ (w : Str) : Bool := Txt.startswith w "\""
theorem startsQ_iff {w : Str} : startsQ w = true ↔ w.cps.toList.head? = some 34 := by
  unfold startsQ Txt.startswith
  rw [PySem.StrLaws.subAt_eq]
  have e1 : (Str.ofString "\"").length = 1 := by decide +kernel
  have e2 : (Str.ofString "\"").cps.toList = [34] := by decide +kernel
  rw [e1, e2, List.drop_zero]
  have el : w.length = w.cps.toList.length := rfl
  rw [el]
  cases w.cps.toList with
  | nil => simp
  | cons a r => simp
def qj : List Str → List Str
  | [] => []
  | w :: r => if startsQ w = true then [Txt.join " " (w :: r)] else w :: qj r
def wordsOf (z : Str) : List Str := qj (Txt.split z " ")
theorem qj_id : ∀ {l : List Str}, (∀ w ∈ l, startsQ w = false) → qj l = l
  | [], _ => rfl
  | w :: r, h => by
    unfold qj
    rw [h w List.mem_cons_self, if_neg Bool.false_ne_true, qj_id fun x hx => h x (List.mem_cons_of_mem _ hx)]
theorem qj_app : ∀ {l r : List Str}, (∀ w ∈ l, startsQ w = false) → qj (l ++ r) = l ++ qj r
  | [], _, _ => rfl
  | w :: l, r, h => by
    show (if startsQ w = true then [Txt.join " " (w :: (l ++ r))] else w :: qj (l ++ r)) = _
    rw [h w List.mem_cons_self, if_neg Bool.false_ne_true, qj_app fun x hx => h x (List.mem_cons_of_mem _ hx)]
    rfl
theorem join_cons_head {w : Str} {r : List Str} {c : Nat} (h : w.cps.toList.head? = some c) : (Txt.join " " (w :: r)).cps.toList.head? = some c := by
  rw [join_eq]
  cases w.cps.toList with
  | nil => cases r with
    | nil => exact h
    | cons x r =>
      show (tl (w ++ (" " : Str) ++ Str.join " " (x :: r))).head? = some c
      rw [tl_append, tl_append]
      cases e : tl w with
      | nil => rw [show w.cps.toList = tl w from rfl, e] at h; cases h
      | cons a q => rw [show w.cps.toList = tl w from rfl, e] at h; exact h
  | cons a q => cases r with
    | nil => exact h
    | cons x r =>
      show (tl (w ++ (" " : Str) ++ Str.join " " (x :: r))).head? = some c
      rw [tl_append, tl_append]
      cases e : tl w with
      | nil => rw [show w.cps.toList = tl w from rfl, e] at h; cases h
      | cons a q => rw [show w.cps.toList = tl w from rfl, e] at h; exact h
/-- the word behind the plain ones, when the rest is put together -/
theorem qj_quote {l : List Str} {o : Str} {r : List Str} (h : ∀ w ∈ l, startsQ w = false) (ho : startsQ o = true) : ∃ x, qj (l ++ o :: r) = l ++ [x] ∧ Odd x := by
  refine ⟨Txt.join " " (o :: r), ?_, quote_odd (join_cons_head (startsQ_iff.mp ho))⟩
  rw [qj_app h]
  congr 1
  unfold qj
  rw [if_pos ho]
/-- no blank, no quote ahead -/
def plainW (w : Str) : Bool := decide (1 ≤ w.length ∧ w.length ≤ 12) && w.cps.toList.all fun c => decide (c = 45 ∨ (48 ≤ c ∧ c ≤ 57) ∨ (97 ≤ c ∧ c ≤ 122))
theorem plain_parts {w : Str} (h : plainW w = true) : (1 ≤ w.length ∧ w.length ≤ 12) ∧ ∀ c ∈ w.cps.toList, c = 45 ∨ (48 ≤ c ∧ c ≤ 57) ∨ (97 ≤ c ∧ c ≤ 122) := by
  unfold plainW at h
  simp only [Bool.and_eq_true, decide_eq_true_eq, List.all_eq_true] at h
  exact h
theorem plain_of {w : Str} (h1 : 1 ≤ w.length ∧ w.length ≤ 12) (h2 : ∀ c ∈ w.cps.toList, c = 45 ∨ (48 ≤ c ∧ c ≤ 57) ∨ (97 ≤ c ∧ c ≤ 122)) : plainW w = true := by
  unfold plainW
  simp only [Bool.and_eq_true, decide_eq_true_eq, List.all_eq_true]
  exact ⟨h1, h2⟩
theorem plain_noq {w : Str} (h : plainW w = true) : startsQ w = false := by
  cases e : startsQ w with
  | false => rfl
  | true =>
    have := (plain_parts h).2 34 (mem_head (startsQ_iff.mp e))
    omega
theorem plain_nob {w : Str} (h : plainW w = true) : 32 ∉ tl w := fun m => by
  have := (plain_parts h).2 32 m
  omega
theorem all_plain : (resW ++ allKnown).all plainW = true := by decide +kernel
theorem nm_plain {z : Str} (h : isNm z = true) : plainW z = true := by
  obtain ⟨a, _, b⟩ := nm_parts h
  exact plain_of a fun c hc => .inr (.inr (let_rng c (b c hc)))
theorem okS_plain {k z : Str} (h : okS k z = true) : plainW z = true := (okS_cases h).elim (fun m => List.all_eq_true.mp all_plain z (List.mem_append.mpr (.inr (known_all m)))) nm_plain
theorem dec_plain {z : Str} (h : isDec z = true) : plainW z = true := by
  obtain ⟨a, b, _⟩ := dec_parts h
  exact plain_of ⟨a.1, by omega⟩ fun c hc => .inr (.inl (b c hc))
theorem pr_plain {z : Str} (h : prOk z = true) : plainW (if z = "" then "-" else z) = true := by
  by_cases e : z = ""
  · rw [if_pos e]
    decide +kernel
  · rw [if_neg e]
    unfold prOk at h
    simp only [Bool.and_eq_true, List.all_eq_true, decide_eq_true_eq] at h
    refine plain_of ⟨?_, by omega⟩ fun c hc => ?_
    · rcases Nat.eq_zero_or_pos z.length with q | q
      · exact absurd (str_ext (by rw [List.length_eq_zero_iff.mp (show z.cps.toList.length = 0 from q)]; decide +kernel)) e
      · exact q
    · have := h.2.1 c hc
      simp only [ltrN, ltrX, List.mem_append, List.mem_cons, List.not_mem_nil, or_false] at this
      omega
theorem take_plain {k w : Str} {d : PyData} (h : takeS k w = some d) : plainW w = true := by
  unfold takeS at h
  split at h
  · by_cases e : isDec w = true
    · exact dec_plain e
    · rw [if_neg (fun q => e q.1)] at h; cases h
  · by_cases hp : k = "params"
    · rw [if_pos hp] at h
      by_cases hd : w = "-"
      · rw [hd]; decide +kernel
      · rw [if_neg hd] at h
        by_cases hq : w ≠ "" ∧ prOk w = true
        · have := pr_plain hq.2
          rw [if_neg hq.1] at this
          exact this
        · rw [if_neg hq] at h; cases h
    · rw [if_neg hp] at h
      by_cases ho : okS k w = true
      · exact okS_plain ho
      · rw [if_neg ho] at h; cases h
theorem head_plain {due : Bool} {h : Str} {ks : List Str} (m : (h, ks) ∈ formsT due) : plainW h = true := List.all_eq_true.mp all_plain h (List.mem_append.mpr (.inl (head_ok m).2.2.1))
/-! sizes -/
def wB : Nat → Nat
  | 0 => 1
  | n + 1 => 3 * wB n + 3
theorem wB_pos : ∀ n, 1 ≤ wB n
  | 0 => Nat.le_refl _
  | n + 1 => by unfold wB; omega
theorem prk_len {pr : Str} (h : prOk pr = true) : (prKinds pr).length ≤ 3 := by
  unfold prOk at h
  simp only [Bool.and_eq_true, decide_eq_true_eq] at h
  unfold prKinds
  rw [List.length_map]
  exact h.1
theorem ks_len : ∀ due ∈ [true, false], ((formsT due).all fun p => decide (p.2.length ≤ 3)) = true := by decide +kernel
def FmW (lv : Nat) : Prop := ∀ {due : Bool} {d : PyData} {w : List Str}, Fm due lv d w → (∀ x ∈ w, plainW x = true) ∧ 1 ≤ w.length ∧ w.length ≤ wB lv
theorem pts_w {lv : Nat} (P : FmW lv) : ∀ {ks : List Str} {ds : List PyData} {w : List Str}, Pts lv ks ds w → (∀ x ∈ w, plainW x = true) ∧ w.length ≤ ks.length * wB lv
  | [], _, _, h => by
    cases h
    exact ⟨fun x hx => (by cases hx), Nat.zero_le _⟩
  | k :: ks, _, _, h => by
    have b := wB_pos lv
    cases h with
    | sm f2 np ht hr =>
      obtain ⟨h1, h2⟩ := pts_w P hr
      refine ⟨fun x hx => ?_, ?_⟩
      · rcases List.mem_cons.mp hx with rfl | hx
        · exact take_plain ht
        · exact h1 x hx
      · rw [List.length_cons, List.length_cons, Nat.add_mul]
        omega
    | fm f2 hf hr =>
      obtain ⟨h1, h2⟩ := pts_w P hr
      obtain ⟨g1, _, g3⟩ := P hf
      refine ⟨fun x hx => ?_, ?_⟩
      · rcases List.mem_append.mp hx with hx | hx
        · exact g1 x hx
        · exact h1 x hx
      · rw [List.length_append, List.length_cons, Nat.add_mul]
        omega
theorem fm_w : ∀ lv, FmW lv := by
  have one : ∀ {n : Nat} {z : Str}, plainW z = true → (∀ x ∈ [z], plainW x = true) ∧ 1 ≤ [z].length ∧ [z].length ≤ wB n := fun {n z} h => ⟨fun x hx => by rw [List.mem_singleton.mp hx]; exact h, Nat.le_refl _, wB_pos n⟩
  intro lv
  induction lv with
  | zero =>
    intro due d w h
    cases h with
    | is hi => exact one (dec_plain (strN_dec hi))
    | get hz => exact one (okS_plain hz)
    | «at» hz => exact one (okS_plain hz)
  | succ lv ih =>
    intro due d w h
    cases h with
    | is hi => exact one (dec_plain (strN_dec hi))
    | get hz => exact one (okS_plain hz)
    | «at» hz => exact one (okS_plain hz)
    | @call _ nm pr ds wr hn hp hr =>
      obtain ⟨h1, h2⟩ := pts_w ih hr
      have l3 := prk_len hp
      have m3 : (prKinds pr).length * wB lv ≤ 3 * wB lv := Nat.mul_le_mul_right _ l3
      refine ⟨fun x hx => ?_, by simp, ?_⟩
      · rcases List.mem_cons.mp hx with rfl | hx
        · exact head_plain call_tab
        rcases List.mem_cons.mp hx with rfl | hx
        · exact nm_plain hn
        rcases List.mem_cons.mp hx with rfl | hx
        · exact pr_plain hp
        · exact h1 x hx
      · simp only [List.length_cons, wB]
        omega
    | @nd _ _ h ks ds wr ht h1 h2 h3 h4 hr =>
      obtain ⟨g1, g2⟩ := pts_w ih hr
      have l3 : ks.length ≤ 3 := of_decide_eq_true (List.all_eq_true.mp (ks_len due (by cases due <;> decide)) _ ht)
      have m3 : ks.length * wB lv ≤ 3 * wB lv := Nat.mul_le_mul_right _ l3
      refine ⟨fun x hx => ?_, by simp, ?_⟩
      · rcases List.mem_cons.mp hx with rfl | hx
        · exact head_plain ht
        · exact g1 x hx
      · simp only [List.length_cons, wB]
        omega
/-! ### what is read -/
/-- read as d -/
def RdOk (ws : List Str) (due : Bool) (d : PyData) : Prop := ∃ g n, beg ws 0 due = some g ∧ go ws n [g] 1 = .done d ws.length
/-- refused at the word p (from 1) -/
def RdErr (ws : List Str) (due : Bool) (p : Nat) : Prop := (beg ws 0 due = none ∧ p = 1) ∨ ∃ g n, beg ws 0 due = some g ∧ (go ws n [g] 1 = .err p ∨ ∃ d k, go ws n [g] 1 = .done d k ∧ k < ws.length ∧ p = k + 1)
theorem mt_self (w r : List Str) : Mt (w ++ r) 0 w := fun i hi => by rw [Nat.zero_add, List.getElem?_append_left hi]
theorem rd_ok {due : Bool} {lv : Nat} {d : PyData} {w : List Str} (h : Fm due lv d w) : RdOk w due d := by
  obtain ⟨g, n, hb, hg⟩ := fm_go lv h w 0 (by have := mt_self w []; rw [List.append_nil] at this; exact this)
  exact ⟨g, n, hb, by have := hg [] 0; rw [Nat.add_zero, Nat.zero_add, Nat.zero_add] at this; exact this⟩
theorem rd_more {due : Bool} {lv : Nat} {d : PyData} {w : List Str} (h : Fm due lv d w) {x : Str} {r : List Str} : RdErr (w ++ x :: r) due (w.length + 1) := by
  obtain ⟨g, n, hb, hg⟩ := fm_go lv h (w ++ x :: r) 0 (mt_self w _)
  refine .inr ⟨g, n, hb, .inr ⟨d, w.length, ?_, ?_, rfl⟩⟩
  · have := hg [] 0
    rw [Nat.add_zero, Nat.zero_add, Nat.zero_add] at this
    exact this
  · rw [List.length_append, List.length_cons]
    omega
theorem rd_cut {due : Bool} {lv : Nat} {d : PyData} {w : List Str} (h : Fm due lv d w) {ws : List Str} {j : Nat} (c : Cut ws 0 j w) : RdErr ws due (j + 1) := by
  rcases fm_err lv h ws 0 j c with ⟨rfl, hb⟩ | ⟨g, n, hb, hg⟩
  · exact .inl ⟨hb, rfl⟩
  · refine .inr ⟨g, n, hb, .inl ?_⟩
    have := hg [] 0
    rw [Nat.add_zero, Nat.zero_add, Nat.zero_add] at this
    exact this
theorem cut_at {w : List Str} {j : Nat} {r : List Str} (hj : j < w.length) (hb : ∀ x, r.head? = some x → Odd x) : Cut (w.take j ++ r) 0 j w := by
  have lt : (w.take j).length = j := by rw [List.length_take]; omega
  refine ⟨hj, fun i hi => ?_, fun x hx => ?_⟩
  · rw [Nat.zero_add, List.getElem?_append_left (by omega), List.getElem?_take_of_lt hi]
  · rw [Nat.zero_add, List.getElem?_append_right (by omega), lt, Nat.sub_self] at hx
    refine hb x ?_
    rw [← hx]
    cases r <;> rfl
theorem empty_odd : Odd ("" : Str) := oddWs_ok (by decide)
/-! ### what repr shows of a form is short -/
structure SmL (ds : List PyData) (m k : Nat) : Prop where
  all : ∀ d ∈ ds, ∃ k, Sm d m k
  sum : (ds.map fun d => d.shown.length).sum ≤ k
theorem SmL.nil {m : Nat} : SmL [] m 0 := ⟨fun d h => (by cases h), Nat.le_refl _⟩
theorem SmL.cons {d : PyData} {ds : List PyData} {m a k : Nat} (h : Sm d m a) (r : SmL ds m k) : SmL (d :: ds) m (a + k) := ⟨fun x hx => by
  rcases List.mem_cons.mp hx with rfl | hx
  · exact ⟨_, h⟩
  · exact r.all x hx, by rw [List.map_cons, List.sum_cons]; exact Nat.add_le_add h.len r.sum⟩
theorem SmL.mono {ds : List PyData} {m m' k k' : Nat} (h : SmL ds m k) (hm : m ≤ m') (hk : k ≤ k') : SmL ds m' k' := ⟨fun d hd => by
  obtain ⟨a, ha⟩ := h.all d hd
  exact ⟨a, ha.mono hm (Nat.le_refl _)⟩, Nat.le_trans h.sum hk⟩
theorem sm_tupS {ds : List PyData} {m k : Nat} (h : SmL ds m k) : Sm (.tuple ds) (m + 1) (k + ds.length * 2 + 3) := by
  have hb : ∃ B, ∀ d ∈ ds, Sm d m B := by
    have al := h.all
    clear h
    induction ds with
    | nil => exact ⟨0, fun d h => (by cases h)⟩
    | cons d ds ih =>
      obtain ⟨B, hB⟩ := ih fun x hx => al x (List.mem_cons_of_mem _ hx)
      obtain ⟨a, ha⟩ := al d List.mem_cons_self
      refine ⟨a + B, fun x hx => ?_⟩
      rcases List.mem_cons.mp hx with rfl | hx
      · exact ha.mono (Nat.le_refl _) (Nat.le_add_right _ _)
      · exact (hB x hx).mono (Nat.le_refl _) (Nat.le_add_left _ _)
  obtain ⟨B, hB⟩ := hb
  have q := sm_tuple hB
  refine ⟨q.sh, q.nd, q.dep, ?_, q.ok⟩
  simp only [PyData.shown]
  have a := tupleText_len_le (PyData.shownAll ds)
  have c := PyData.shownAll_length ds
  have e : ((PyData.shownAll ds).map (·.length)).sum = (ds.map fun d => d.shown.length).sum := by
    rw [shownAll_eq_map, List.map_map]
    rfl
  rw [c, e] at a
  have := h.sum
  omega
def sB : Nat → Nat
  | 0 => 300
  | n + 1 => 3 * sB n + 500
theorem sB_pos : ∀ n, 300 ≤ sB n
  | 0 => Nat.le_refl _
  | n + 1 => by unfold sB; have := sB_pos n; omega
theorem sm_plain {w : Str} (h : plainW w = true) : Sm (.str w) 0 130 := by
  obtain ⟨a, b⟩ := plain_parts h
  exact (sm_str fun c hc => by have := b c hc; omega).mono (Nat.le_refl _) (by omega)
theorem sm_nat {i : Nat} (h : i ≤ 999) : Sm (.int (i : Nat)) 0 130 := (sm_int (by omega) (by omega)).mono (Nat.le_refl _) (by decide)
theorem take_sm {k w : Str} {d : PyData} (h : takeS k w = some d) : Sm d 0 130 := by
  have hp := take_plain h
  unfold takeS at h
  split at h
  · rename_i lo hi e
    have hh : hi ≤ 999 := by
      unfold rngK at e
      by_cases e1 : k = "integer"
      · rw [if_pos e1] at e; cases e; decide
      · rw [if_neg e1] at e
        by_cases e2 : k = "chances"
        · rw [if_pos e2] at e; cases e; decide
        · rw [if_neg e2] at e; cases e
    by_cases e : isDec w = true ∧ lo ≤ valD w ∧ valD w ≤ hi
    · rw [if_pos e] at h
      cases h
      exact sm_nat (Nat.le_trans e.2.2 hh)
    · rw [if_neg e] at h; cases h
  · by_cases hp2 : k = "params"
    · rw [if_pos hp2] at h
      by_cases hd : w = "-"
      · rw [if_pos hd] at h
        cases h
        exact (sm_str (by decide +kernel)).mono (Nat.le_refl _) (by decide +kernel)
      · rw [if_neg hd] at h
        by_cases hq : w ≠ "" ∧ prOk w = true
        · rw [if_pos hq] at h
          cases h
          exact sm_plain hp
        · rw [if_neg hq] at h; cases h
    · rw [if_neg hp2] at h
      by_cases ho : okS k w = true
      · rw [if_pos ho] at h
        cases h
        exact sm_plain hp
      · rw [if_neg ho] at h; cases h
def FmS (lv : Nat) : Prop := ∀ {due : Bool} {d : PyData} {w : List Str}, Fm due lv d w → Sm d (2 * lv + 2) (sB lv)
theorem pts_s {lv : Nat} (P : FmS lv) : ∀ {ks : List Str} {ds : List PyData} {w : List Str}, Pts lv ks ds w → SmL ds (2 * lv + 2) (ks.length * sB lv) ∧ ds.length = ks.length
  | [], _, _, h => by
    cases h
    exact ⟨SmL.nil.mono (Nat.le_refl _) (Nat.zero_le _), rfl⟩
  | k :: ks, _, _, h => by
    have b := sB_pos lv
    have e : (k :: ks).length * sB lv = sB lv + ks.length * sB lv := by rw [List.length_cons, Nat.add_mul, Nat.one_mul, Nat.add_comm]
    rw [e]
    cases h with
    | sm f2 np ht hr =>
      obtain ⟨h1, h2⟩ := pts_s P hr
      exact ⟨.cons ((take_sm ht).mono (Nat.zero_le _) (by omega)) h1, by rw [List.length_cons, List.length_cons, h2]⟩
    | fm f2 hf hr =>
      obtain ⟨h1, h2⟩ := pts_s P hr
      exact ⟨.cons (P hf) h1, by rw [List.length_cons, List.length_cons, h2]⟩
theorem fm_s : ∀ lv, FmS lv := by
  have two : ∀ {n : Nat} {h : Str} {d : PyData}, plainW h = true → Sm d 0 130 → Sm (.tuple [.str h, d]) (2 * n + 2) (sB n) := fun {n h d} hh hd => by
    have := sB_pos n
    exact (sm_tupS (.cons (sm_plain hh) (.cons hd .nil))).mono (by omega) (by show 130 + (130 + 0) + 2 * 2 + 3 ≤ _; omega)
  have two0 : ∀ {n : Nat} {h z : Str}, plainW h = true → plainW z = true → Sm (.tuple [.str h, .str z]) (2 * n + 2) (sB n) := fun hh hz => two hh (sm_plain hz)
  intro lv
  induction lv with
  | zero =>
    intro due d w h
    cases h with
    | is hi => exact two (by decide +kernel) (sm_nat hi)
    | get hz => exact two0 (by decide +kernel) (okS_plain hz)
    | «at» hz => exact two0 (by decide +kernel) (okS_plain hz)
  | succ lv ih =>
    intro due d w h
    have b := sB_pos lv
    cases h with
    | is hi => exact two (by decide +kernel) (sm_nat hi)
    | get hz => exact two0 (by decide +kernel) (okS_plain hz)
    | «at» hz => exact two0 (by decide +kernel) (okS_plain hz)
    | @call _ nm pr ds wr hn hp hr =>
      obtain ⟨h1, h2⟩ := pts_s ih hr
      have l3 := prk_len hp
      have m3 : (prKinds pr).length * sB lv ≤ 3 * sB lv := Nat.mul_le_mul_right _ l3
      have hprs : Sm (.str pr) 0 130 := by
        have q := pr_plain hp
        by_cases e : pr = ""
        · rw [e]
          exact (sm_str (by decide +kernel)).mono (Nat.le_refl _) (by decide +kernel)
        · rw [if_neg e] at q
          exact sm_plain q
      refine Sm.mono (sm_tupS (.cons ((sm_plain (w := "call") (by decide +kernel)).mono (Nat.zero_le _) (Nat.le_refl _)) (.cons ((sm_plain (nm_plain hn)).mono (Nat.zero_le _) (Nat.le_refl _)) (.cons (hprs.mono (Nat.zero_le _) (Nat.le_refl _)) (.cons (sm_tupS h1) .nil))))) (by omega) ?_
      show 130 + (130 + (130 + ((prKinds pr).length * sB lv + ds.length * 2 + 3 + 0))) + 4 * 2 + 3 ≤ 3 * sB lv + 500
      omega
    | @nd _ _ h ks ds wr ht h1 h2 h3 h4 hr =>
      obtain ⟨g1, g2⟩ := pts_s ih hr
      have l3 : ks.length ≤ 3 := of_decide_eq_true (List.all_eq_true.mp (ks_len due (by cases due <;> decide)) _ ht)
      have m3 : ks.length * sB lv ≤ 3 * sB lv := Nat.mul_le_mul_right _ l3
      refine Sm.mono (sm_tupS (.cons ((sm_plain (head_plain ht)).mono (Nat.zero_le _) (Nat.le_refl _)) g1)) (by omega) ?_
      show 130 + ks.length * sB lv + (ds.length + 1) * 2 + 3 ≤ 3 * sB lv + 500
      omega
/-! ### the program's lines and half forms -/
def But (a : Addr) (H H' : Hp) : Prop := ∀ b o, b ≠ a → H b = some o → H' b = some o
theorem But.of {a : Addr} {H H' : Hp} (s : Same H H') : But a H H' := fun b o _ h => s b o h
theorem But.trans {a : Addr} {H H1 H2 : Hp} (x : But a H H1) (y : But a H1 H2) : But a H H2 := fun b o n h => y b o n (x b o n h)
theorem But.same {a : Addr} {H H1 H2 : Hp} (x : But a H H1) (y : Same H1 H2) : But a H H2 := fun b o n h => y b o (x b o n h)
theorem But.free {a b : Addr} {H H1 : Hp} (x : But a H H1) (n : b ≠ a) (h : H1 b = none) : H b = none := by
  cases e : H b with
  | none => rfl
  | some o => rw [x b o n e] at h; cases h
def lwF (num : Int) (p : Addr) (k : Nat) : List (Str × V) := [("number", .int num), ("words", .ref p), ("taken_many", .int (k : Nat))]
structure LW (K : PySem.W.Frag) (H : Hp) (x p : Addr) (num : Int) (ws : List Str) (k : Nat) : Prop where
  ins : ∃ dx, H x = some (.ins (He.ga K "LineWords") dx (lwF num p k))
  row : H p = some (.lst (ms ws))
  many : ws.length ≤ 100000
  kle : k ≤ ws.length
theorem LW.same {K : PySem.W.Frag} {H H' : Hp} {x p : Addr} {num : Int} {ws : List Str} {k : Nat} (h : LW K H x p num ws k) (s : Same H H') : LW K H' x p num ws k := ⟨h.ins.imp fun _ e => s _ _ e, s _ _ h.row, h.many, h.kle⟩
def vD : PyData → V
  | .int i => .int i
  | .str z => .str z
  | _ => .non
theorem vD_dv {H : Hp} {k w : Str} {d : PyData} (h : takeS k w = some d) : Dv H (vD d) d := by
  unfold takeS at h
  split at h
  · split at h
    · cases h; exact .int _
    · cases h
  · split at h
    · split at h
      · cases h; exact .str _
      · split at h
        · cases h; exact .str _
        · cases h
    · split at h
      · cases h; exact .str _
      · cases h
def optV : Option Str → V
  | some w => .str w
  | none => .non
/-- the heap behind a raised BadLine -/
def Raised (K : PySem.W.Frag) (x : Addr) (num : Int) (k : Nat) (H : Hp) (E : XK) : Prop := ∀ d H', But x H H' → H d = none → H' d = some (.xd [("line", .int num), ("word", .int (k : Nat))]) → E (.ref (He.ga K "BadLine")) (some d) H'
def smKinds : List Str := (["mark", "number", "link", "row", "action", "routine", "rule", "reading", "pointed"] : List Str)
def spKinds (K : PySem.W.Frag) : Sp := fun vs H Q _ => ∃ (due : Bool) (w : Str), vs = [.str w, .str (if due then "N" else "X")] ∧ (kindsOf due w = none → Q .non H) ∧ (∀ ks a, kindsOf due w = some ks → (∀ H', SqT K H' a (ms ks)) → Q (.ref a) H)
def spIsName : Sp := fun vs H Q _ => ∃ z : Str, vs = [.str z] ∧ z.length ≤ 1000000 ∧ ∀ H', Same H H' → Q (.bl (isNm z)) H'
/-- of None and of a text -/
def SOpt (vs : List V) (H : Hp) (f : Str → Bool) (Q : VK) : Prop := ∃ o : Option Str, vs = [optV o] ∧ (∀ z, o = some z → z.length ≤ 1000000) ∧ ∀ H', Same H H' → Q (.bl ((o.map f).getD false)) H'
def spAreParams : Sp := fun vs H Q _ => SOpt vs H prOk Q
def spIsDec : Sp := fun vs H Q _ => SOpt vs H isDec Q
def spIsSmall : Sp := fun vs H Q _ => ∃ (k : Str) (o : Option Str), vs = [.str k, optV o] ∧ k ∈ smKinds ∧ (∀ z, o = some z → z.length ≤ 1000000) ∧ ∀ H', Same H H' → Q (.bl ((o.map (okS k)).getD false)) H'
def spWordsOf : Sp := fun vs H Q _ => ∃ z : Str, vs = [.str z] ∧ z.length ≤ 90000 ∧ ∀ p H', Same H H' → H p = none → H' p = some (.lst (ms (wordsOf z))) → Q (.ref p) H'
def spLWI (K : PySem.W.Frag) : Sp := fun vs H Q _ => ∃ (x dx : Addr) (num : Int) (z : Str), vs = [.ref x, .int num, .str z] ∧ H x = some (.ins (He.ga K "LineWords") dx []) ∧ z.length ≤ 90000 ∧ ∀ p H', But x H H' → H p = none → LW K H' x p num (wordsOf z) 0 → Q .non H'
def spSeen (K : PySem.W.Frag) : Sp := fun vs H Q _ => ∃ (x p : Addr) (num : Int) (ws : List Str) (k : Nat), vs = [.ref x] ∧ LW K H x p num ws k ∧ Q (optV ws[k]?) H
def spTake (K : PySem.W.Frag) : Sp := fun vs H Q E => ∃ (x p : Addr) (num : Int) (ws : List Str) (k : Nat) (g : Bool), vs = [.ref x, .bl g] ∧ LW K H x p num ws k ∧ (g = true → ∃ w, ws[k]? = some w ∧ ∀ H', But x H H' → LW K H' x p num ws (k + 1) → Q (.str w) H') ∧ (g = false → Raised K x num (k + 1) H E)
def spShut (K : PySem.W.Frag) : Sp := fun vs H Q E => ∃ (x p : Addr) (num : Int) (ws : List Str) (k : Nat), vs = [.ref x] ∧ LW K H x p num ws k ∧ (k < ws.length → Raised K x num (k + 1) H E) ∧ (k = ws.length → Q .non H)
/-- a small part is taken -/
def TakeO (K : PySem.W.Frag) (x p : Addr) (num : Int) (ws : List Str) (k : Nat) (r : Option PyData) (H : Hp) (Q : VK) (E : XK) : Prop := (∀ d, r = some d → ∀ H', But x H H' → LW K H' x p num ws (k + 1) → Q (vD d) H') ∧ (r = none → Raised K x num (k + 1) H E)
def WsOk (ws : List Str) : Prop := ∀ w ∈ ws, w.length ≤ 1000000
def spTakeI (K : PySem.W.Frag) : Sp := fun vs H Q E => ∃ (x p : Addr) (num : Int) (ws : List Str) (k lo hi : Nat), vs = [.ref x, .int (lo : Nat), .int (hi : Nat)] ∧ LW K H x p num ws k ∧ WsOk ws ∧ TakeO K x p num ws k (ws[k]?.bind fun w => if isDec w = true ∧ lo ≤ valD w ∧ valD w ≤ hi then some (.int (valD w : Nat)) else none) H Q E
def spTakeP (K : PySem.W.Frag) : Sp := fun vs H Q E => ∃ (x p : Addr) (num : Int) (ws : List Str) (k : Nat), vs = [.ref x] ∧ LW K H x p num ws k ∧ WsOk ws ∧ TakeO K x p num ws k (ws[k]?.bind (takeS "params")) H Q E
def takeKinds : List Str := (["integer", "chances", "params"] : List Str) ++ smKinds
def spTakeS (K : PySem.W.Frag) : Sp := fun vs H Q E => ∃ (x p : Addr) (num : Int) (ws : List Str) (k : Nat) (kd : Str), vs = [.ref x, .str kd] ∧ kd ∈ takeKinds ∧ LW K H x p num ws k ∧ WsOk ws ∧ TakeO K x p num ws k (ws[k]?.bind (takeS kd)) H Q E
theorem Raised.weak {K : PySem.W.Frag} {x : Addr} {num : Int} {k : Nat} {H H' : Hp} {E : XK} (h : Raised K x num k H E) (b : But x H H') (hx : ∃ o, H' x = some o) : Raised K x num k H' E := fun d H2 b2 nd hd => h d H2 (b.trans b2) (b.free (fun e => by
  obtain ⟨o, ho⟩ := hx
  rw [← e, nd] at ho
  cases ho) nd) hd
theorem LW.at {K : PySem.W.Frag} {H : Hp} {x p : Addr} {num : Int} {ws : List Str} {k : Nat} (h : LW K H x p num ws k) : ∃ o, H x = some o := by
  obtain ⟨dx, e⟩ := h.ins
  exact ⟨_, e⟩
theorem kindsOf_nomem {due : Bool} {w : Str} (h : w ∉ (formsT due).map (·.1)) : kindsOf due w = none := by
  unfold kindsOf
  cases e : (formsT due).find? fun p => decide (p.1 = w) with
  | none => rfl
  | some p =>
    have e2 := List.find?_some e
    exact absurd (List.mem_map.mpr ⟨p, List.mem_of_find?_eq_some e, of_decide_eq_true e2⟩) h
theorem inV_ms {z : Str} : ∀ l : List Str, inV (.str z) (ms l) = decide (z ∈ l)
  | [] => by simp [inV, ms]
  | a :: l => by
    have ih := inV_ms (z := z) l
    unfold inV at *
    show ((a == z) || (ms l).any fun y => eqV y (.str z)) = _
    rw [ih]
    by_cases e : a = z
    · subst e
      simp
    · have e2 : z ≠ a := fun h => e h.symm
      simp [e, e2]
theorem flat_ms (l : List Str) : (ms l).all flatV = true := List.all_eq_true.mpr fun v hv => by
  obtain ⟨z, _, rfl⟩ := List.mem_map.mp hv
  rfl
theorem inV_mV {z : Str} (l : List Str) : inV (.str z) (l.map V.str) = decide (z ∈ l) := inV_ms l
theorem kd_find {due : Bool} {w : Str} {D : Str} {K : PySem.W.Frag} {w0 : World} {H : Hp} {Q : VK} (t : kdB K D ((formsT due).map fun r => (r.1, r.2.map V.str)) = true) (T : KTab K w0 (He.ga K D) ((formsT due).map (·.1)))
    (h0 : kindsOf due w = none → Q V.non H) (h1 : ∀ ks a, kindsOf due w = some ks → (∀ H', SqT K H' a (ms ks)) → Q (.ref a) H) : ∃ ks, KTab K w0 (He.ga K D) ks ∧ if w ∈ ks then ∃ x, KDct K w0 (He.ga K D) w x ∧ Q x H else Q V.non H := by
  refine ⟨_, T, ?_⟩
  by_cases m : w ∈ (formsT due).map (·.1)
  · rw [if_pos m]
    obtain ⟨⟨h, ks⟩, hm, rfl⟩ := List.mem_map.mp m
    obtain ⟨ar, e1, hT⟩ := kdB_ok t (List.mem_map.mpr ⟨(h, ks), hm, rfl⟩)
    exact ⟨.ref ar, T.dct (v := .ref ar) e1 rfl, h1 ks ar (head_ok hm).2.1 hT⟩
  · rw [if_neg m]
    exact h0 (kindsOf_nomem m)
theorem cutS_hi (z : Str) (i : Nat) : (cutS z none (some (i : Int))).cps.toList = z.cps.toList.take i := by
  have lz : z.cps.toList.length = z.length := Array.length_toList
  unfold cutS
  rw [HT.sIx_nat, HT.sIx_none]
  show (z.cps.toList.drop 0).take (min i z.length - 0) = _
  rw [List.drop_zero, Nat.sub_zero, ← lz, List.take_eq_take_iff]
  omega
theorem spl_b (S : List Nat) : ∀ (l : List Nat) (k : Nat) (acc : List Nat), ((spl S k acc l).map List.length).sum ≤ acc.length + l.length ∧ (spl S k acc l).length ≤ l.length + 1
  | [], k, acc => by
    cases k <;> simp [spl]
  | c :: r, 0, acc => by
    unfold spl
    by_cases h : pre S (c :: r) = true
    · rw [if_pos h]
      obtain ⟨a, b⟩ := spl_b S r (S.length - 1) []
      simp only [List.map_cons, List.sum_cons, List.length_cons, List.length_nil] at *
      omega
    · rw [if_neg h]
      obtain ⟨a, b⟩ := spl_b S r 0 (acc ++ [c])
      simp only [List.length_append, List.length_cons, List.length_nil] at *
      omega
  | c :: r, k + 1, acc => by
    unfold spl
    obtain ⟨a, b⟩ := spl_b S r k acc
    simp only [List.length_cons] at *
    omega
theorem split_b (z : Str) : ((Txt.split z " ").map (·.length)).sum ≤ z.length ∧ (Txt.split z " ").length ≤ z.length + 1 := by
  have e := split_spl z " " (by decide +kernel) (kind_ok (by decide +kernel))
  obtain ⟨a, b⟩ := spl_b (tl " ") (tl z) 0 []
  rw [← e] at a b
  have lz : (tl z).length = z.length := (len_tl z).symm
  rw [lz] at a b
  rw [List.length_map] at b
  rw [List.map_map] at a
  refine ⟨?_, b⟩
  simp only [List.length_nil, Nat.zero_add] at a
  refine Nat.le_trans (Nat.le_of_eq ?_) a
  first
  | rfl
  | (congr 1; exact List.map_congr_left fun x _ => len_tl x)
theorem sum_drop : ∀ (l : List Nat) (i : Nat), (l.drop i).sum ≤ l.sum
  | [], i => by simp
  | a :: l, 0 => Nat.le_refl _
  | a :: l, i + 1 => by
    rw [List.drop_succ_cons, List.sum_cons]
    exact Nat.le_trans (sum_drop l i) (Nat.le_add_left _ _)
theorem qj_len : ∀ l : List Str, (qj l).length ≤ l.length
  | [] => Nat.le_refl _
  | w :: r => by
    unfold qj
    by_cases e : startsQ w = true
    · rw [if_pos e]
      simp
    · rw [if_neg e, List.length_cons, List.length_cons]
      exact Nat.succ_le_succ (qj_len r)
theorem int_dec {w : Str} (h : isDec w = true) : intText? w = some (valD w : Int) := by
  obtain ⟨a, b, _⟩ := dec_parts h
  refine intText_digits (x := w) (fun c hc => ?_) (fun e => ?_) (by omega)
  · have := b c hc
    omega
  · obtain ⟨c, hc⟩ := len_pos a.1
    rw [e] at hc
    cases hc
/-- take with a bad word -/
theorem tk_bad {K : PySem.W.Frag} {x p : Addr} {num : Int} {ws : List Str} {k : Nat} {H H1 : Hp} {Q : VK} {E : XK} (L : LW K H x p num ws k) (s : Same H H1) (r : Raised K x num (k + 1) H E) : spTake K [.ref x, .bl false] H1 Q E :=
  ⟨x, p, num, ws, k, false, rfl, L.same s, fun z => (by cases z), fun _ => r.weak (But.of s) (L.same s).at⟩
theorem tk_good {K : PySem.W.Frag} {x p : Addr} {num : Int} {ws : List Str} {k : Nat} {w : Str} {H H1 : Hp} {Q : VK} {E : XK} (L : LW K H x p num ws k) (s : Same H H1) (hw : ws[k]? = some w) (q : ∀ H', But x H H' → LW K H' x p num ws (k + 1) → Q (.str w) H') : spTake K [.ref x, .bl true] H1 Q E :=
  ⟨x, p, num, ws, k, true, rfl, L.same s, fun _ => ⟨w, hw, fun H' b L' => q H' ((But.of s).trans b) L'⟩, fun z => (by cases z)⟩
theorem opt_ok {ws : List Str} {k : Nat} (wo : WsOk ws) : ∀ z, ws[k]? = some z → z.length ≤ 1000000 := fun z h => wo z (List.mem_of_getElem? h)
/-! ### half forms -/
def hfF (hd : Str) (a b : Addr) : List (Str × V) := [("head", .str hd), ("dues", .ref a), ("read_parts_now", .ref b)]
/-- a half form in the heap -/
structure HfA (K : PySem.W.Frag) (H : Hp) (y a b : Addr) (h : Hf) : Prop where
  ins : ∃ dy, H y = some (.ins (He.ga K "HalfForm") dy (hfF h.hd a b))
  du : H a = some (.lst (ms h.du))
  ps : ∃ vs, H b = some (.lst vs) ∧ DvAll H vs h.ps
  nl : noLs h.ps = true
  ne : a ≠ b
def spHFI (K : PySem.W.Frag) : Sp := fun vs H Q _ => ∃ (y dy p : Addr) (hd : Str) (l : List Str), vs = [.ref y, .str hd, .ref p] ∧ H y = some (.ins (He.ga K "HalfForm") dy []) ∧ l.length ≤ 1000 ∧ Sq H p (ms l) ∧ (∀ a b H', But y H H' → H a = none → H b = none → HfA K H' y a b ⟨hd, l, []⟩ → Q .non H')
def spWhole (K : PySem.W.Frag) : Sp := fun vs H Q _ => ∃ (y a b : Addr) (h : Hf), vs = [.ref y] ∧ HfA K H y a b h ∧ h.ps.length ≤ 400000 ∧ ∀ H' v, Same H H' → Dv H' v h.whole → Q v H'
def spBegun (K : PySem.W.Frag) : Sp := fun vs H Q E => ∃ (x p : Addr) (num : Int) (ws : List Str) (k : Nat) (due : Bool), vs = [.ref x, .str (if due then "N" else "X")] ∧ LW K H x p num ws k ∧ WsOk ws ∧ (beg ws k due = none → Raised K x num (k + 1) H E) ∧ ∀ g, beg ws k due = some g → ∀ y a b H', But x H H' → LW K H' x p num ws (k + 1) → HfA K H' y a b g → H y = none → H a = none → H b = none → Q (.ref y) H'
/-- what the machine answers -/
def MsOk (K : PySem.W.Frag) (x p : Addr) (num : Int) (ws : List Str) (r : Ms) (H : Hp) (Q : VK) (E : XK) : Prop := match r with
  | .done d k => ∀ H' v, But x H H' → LW K H' x p num ws k → Dv H' v d → Q v H'
  | .err k => Raised K x num k H E
  | .run _ _ => False
def spTakeForm (K : PySem.W.Frag) : Sp := fun vs H Q E => ∃ (x p : Addr) (num : Int) (ws : List Str) (k m : Nat) (due : Bool), vs = [.ref x, .str (if due then "N" else "X")] ∧ LW K H x p num ws k ∧ WsOk ws ∧ MsOk K x p num ws (match beg ws k due with
  | some g => go ws m [g] (k + 1)
  | none => .err (k + 1)) H Q E
theorem Sq_notins {H : Hp} {p y : Addr} {l : List V} {c d : Addr} {fs : List (Str × V)} (h : Sq H p l) (hy : H y = some (.ins c d fs)) : p ≠ y := fun e => by
  subst e
  rcases h with h | h <;> rw [hy] at h <;> cases h
theorem cat_any {K : PySem.W.Frag} {H : Hp} {Q : VK} {a b : Addr} {xs ys : List V} {ds es : List PyData} (ha : H a = some (.tup xs)) (hx : DvAll H xs ds) (hb : H b = some (.tup ys)) (hy : DvAll H ys es) (hl : xs.length + ys.length ≤ 500000) (q : ∀ r H', Same H H' → Dv H' (.ref r) (.tuple (ds ++ es)) → Q (.ref r) H') : rCatA K (.ref a) (.ref b) H Q := by
  refine ⟨a, b, xs, ys, rfl, rfl, .inl (.inl ha), .inl (.inl hb), Nat.le_trans hl (by decide), fun e => ?_, fun _ e => ?_, fun _ _ r nr => ?_⟩
  · subst e
    cases hx
    exact q b H (Same.refl H) (.tup hb hy)
  · subst e
    cases hy
    exact q a H (Same.refl H) (by rw [List.append_nil]; exact .tup ha hx)
  · exact q r _ (same_new nr) (.tup upd_same ((hx.app hy).same (same_new nr)))
theorem DvAll.take {H : Hp} : ∀ {vs : List V} {ds : List PyData} (n : Nat), DvAll H vs ds → DvAll H (vs.take n) (ds.take n)
  | _, _, 0, _ => .nil
  | _, _, n + 1, .nil => .nil
  | _, _, n + 1, .cons h r => .cons h (r.take n)
theorem DvAll.drop {H : Hp} : ∀ {vs : List V} {ds : List PyData} (n : Nat), DvAll H vs ds → DvAll H (vs.drop n) (ds.drop n)
  | _, _, 0, h => h
  | _, _, n + 1, .nil => .nil
  | _, _, n + 1, .cons h r => r.drop n
theorem same_but {y : Addr} {H H1 H2 : Hp} (s : Same H H1) (ny : H y = none) (b : But y H1 H2) : Same H H2 := fun c o h => b c o (fun e => by rw [e, ny] at h; cases h) (s c o h)
theorem HfA.keep {K : PySem.W.Frag} {H H' : Hp} {D y a b : Addr} {h : Hf} (A : HfA K H y a b h) (B : But D H H') (hy : y ≠ D) (ha : a ≠ D) (hb : b ≠ D) (ht : ∀ xs, H D ≠ some (.tup xs)) : HfA K H' y a b h := by
  obtain ⟨⟨dy, e1⟩, e2, ⟨vs, e3, e4⟩, nl, ne⟩ := A
  exact ⟨⟨dy, B _ _ hy e1⟩, B _ _ ha e2, ⟨vs, B _ _ hb e3, DvAll.mapT (fun c xs e => B _ _ (fun z => ht xs (by rw [← z]; exact e)) e) _ _ nl e4⟩, nl, ne⟩
theorem HfA.same {K : PySem.W.Frag} {H H' : Hp} {y a b : Addr} {h : Hf} (A : HfA K H y a b h) (s : Same H H') : HfA K H' y a b h := by
  obtain ⟨⟨dy, e1⟩, e2, ⟨vs, e3, e4⟩, nl, ne⟩ := A
  exact ⟨⟨dy, s _ _ e1⟩, s _ _ e2, ⟨vs, s _ _ e3, e4.same s⟩, nl, ne⟩
theorem HfA.at {K : PySem.W.Frag} {H : Hp} {y a b : Addr} {h : Hf} (A : HfA K H y a b h) : ∃ o, H y = some o := by
  obtain ⟨dy, e⟩ := A.ins
  exact ⟨_, e⟩
theorem LW.but {K : PySem.W.Frag} {H H' : Hp} {D x p : Addr} {num : Int} {ws : List Str} {k : Nat} (h : LW K H x p num ws k) (B : But D H H') (hx : x ≠ D) (hp : p ≠ D) : LW K H' x p num ws k := ⟨h.ins.imp fun _ e => B _ _ hx e, B _ _ hp h.row, h.many, h.kle⟩
theorem vD_nl {k w : Str} {d : PyData} (h : takeS k w = some d) : noL d = true := by
  unfold takeS at h
  split at h
  · split at h
    · cases h; rfl
    · cases h
  · split at h
    · split at h
      · cases h; rfl
      · split at h
        · cases h; rfl
        · cases h
    · split at h
      · cases h; rfl
      · cases h
theorem begW_leaf {due : Bool} {w : Str} (h1 : ¬ (due = true ∧ isDec w = true)) (h2 : (w = "is" ∨ w = "get" ∨ w = "at") ∨ kindsOf due w = none) : begW due w = if okS (if due then "reading" else "pointed") w = true then some ⟨if due then "get" else "at", [], [.str w]⟩ else none := by
  unfold begW
  rw [if_neg h1]
  have e : (if w = "is" ∨ w = "get" ∨ w = "at" then none else kindsOf due w) = none := by
    by_cases g : w = "is" ∨ w = "get" ∨ w = "at"
    · rw [if_pos g]
    · rw [if_neg g]
      exact h2.resolve_left g
  rw [e]
theorem begW_kinds {due : Bool} {w : Str} {ks : List Str} (h1 : ¬ (due = true ∧ isDec w = true)) (h2 : ¬ (w = "is" ∨ w = "get" ∨ w = "at")) (h3 : kindsOf due w = some ks) : begW due w = some ⟨w, ks.filter fun k => decide (k ≠ "forms"), []⟩ := by
  unfold begW
  rw [if_neg h1, if_neg h2, h3]
theorem begW_dec {w : Str} (h : isDec w = true) : begW true w = if valD w ≤ 999 then some ⟨"is", [], [.int (valD w : Nat)]⟩ else none := by
  unfold begW
  rw [if_pos ⟨rfl, h⟩]
theorem takeS_dec {w : Str} (h : isDec w = true) : takeS "integer" w = if valD w ≤ 999 then some (.int (valD w : Nat)) else none := by
  unfold takeS
  rw [show rngK "integer" = some (0, 999) by decide +kernel]
  by_cases g : valD w ≤ 999
  · rw [if_pos g]
    exact if_pos ⟨h, Nat.zero_le _, g⟩
  · rw [if_neg g]
    exact if_neg fun z => g z.2.2
theorem kinds_len {due : Bool} {w : Str} {ks : List Str} (h : kindsOf due w = some ks) : ks.length ≤ 10 := by
  unfold kindsOf at h
  cases e : (formsT due).find? fun p => decide (p.1 = w) with
  | none => rw [e] at h; cases h
  | some p =>
    rw [e] at h
    cases h
    have m := List.mem_of_find?_eq_some e
    have := List.all_eq_true.mp (show (formsT due).all (fun p => decide (p.2.length ≤ 10)) = true by cases due <;> decide +kernel) p m
    exact of_decide_eq_true this
def leafK (due : Bool) : Str := if due then "reading" else "pointed"
theorem takeS_leaf (due : Bool) (w : Str) : takeS (leafK due) w = if okS (leafK due) w = true then some (.str w) else none := by
  unfold takeS
  rw [show rngK (leafK due) = none by cases due <;> decide +kernel]
  dsimp only
  rw [if_neg (show leafK due ≠ "params" by cases due <;> decide +kernel)]
theorem leaf_none {ws : List Str} {k : Nat} {due : Bool} (hw : ∀ w, ws[k]? = some w → ¬ (due = true ∧ isDec w = true) ∧ ((w = "is" ∨ w = "get" ∨ w = "at") ∨ kindsOf due w = none)) (h : ws[k]?.bind (takeS (leafK due)) = none) : beg ws k due = none := by
  unfold beg
  cases e : ws[k]? with
  | none => rfl
  | some w =>
    rw [e] at h
    obtain ⟨a, b⟩ := hw w e
    have h2 : takeS (leafK due) w = none := h
    rw [takeS_leaf] at h2
    dsimp only
    rw [begW_leaf a b]
    by_cases g : okS (leafK due) w = true
    · rw [if_pos g] at h2
      cases h2
    · exact if_neg g
theorem leaf_some {ws : List Str} {k : Nat} {due : Bool} (hw : ∀ w, ws[k]? = some w → ¬ (due = true ∧ isDec w = true) ∧ ((w = "is" ∨ w = "get" ∨ w = "at") ∨ kindsOf due w = none)) (d : PyData) (h : ws[k]?.bind (takeS (leafK due)) = some d) : beg ws k due = some ⟨if due then "get" else "at", [], [d]⟩ := by
  unfold beg
  cases e : ws[k]? with
  | none => rw [e] at h; cases h
  | some w =>
    rw [e] at h
    obtain ⟨a, b⟩ := hw w e
    have h2 : takeS (leafK due) w = some d := h
    rw [takeS_leaf] at h2
    dsimp only
    rw [begW_leaf a b]
    by_cases g : okS (leafK due) w = true
    · rw [if_pos g] at h2
      cases h2
      exact if_pos g
    · rw [if_neg g] at h2
      cases h2
/-! ### the stack of half forms -/
def ownT : List (Addr × Addr × Addr) → List Addr
  | [] => []
  | t :: ts => t.1 :: t.2.1 :: t.2.2 :: ownT ts
inductive Stk (K : PySem.W.Frag) (H : Hp) : List (Addr × Addr × Addr) → List Hf → Prop
  | nil : Stk K H [] []
  | cons {y a b : Addr} {h : Hf} {ts : List (Addr × Addr × Addr)} {S : List Hf} : HfA K H y a b h → Stk K H ts S → y ∉ ownT ts → a ∉ ownT ts → b ∉ ownT ts → Stk K H ((y, a, b) :: ts) (h :: S)
theorem Stk.keep {K : PySem.W.Frag} {H H' : Hp} {D : Addr} (B : But D H H') (ht : ∀ xs, H D ≠ some (.tup xs)) : ∀ {ts : List (Addr × Addr × Addr)} {S : List Hf}, Stk K H ts S → D ∉ ownT ts → Stk K H' ts S
  | _, _, .nil, _ => .nil
  | _, _, .cons A s n1 n2 n3, nd => by
    simp only [ownT, List.mem_cons, not_or] at nd
    exact .cons (A.keep B (fun e => nd.1 e.symm) (fun e => nd.2.1 e.symm) (fun e => nd.2.2.1 e.symm) ht) (s.keep B ht nd.2.2.2) n1 n2 n3
theorem Stk.same {K : PySem.W.Frag} {H H' : Hp} (s : Same H H') : ∀ {ts : List (Addr × Addr × Addr)} {S : List Hf}, Stk K H ts S → Stk K H' ts S
  | _, _, .nil => .nil
  | _, _, .cons A r n1 n2 n3 => .cons (A.same s) (r.same s) n1 n2 n3
theorem Stk.old {K : PySem.W.Frag} {H : Hp} {z : Addr} (nz : H z = none) : ∀ {ts : List (Addr × Addr × Addr)} {S : List Hf}, Stk K H ts S → z ∉ ownT ts
  | _, _, .nil => fun h => by cases h
  | _, _, .cons A r n1 n2 n3 => fun h => by
    simp only [ownT, List.mem_cons] at h
    obtain ⟨⟨dy, e1⟩, e2, ⟨vs, e3, e4⟩, nl, ne⟩ := A
    rcases h with h | h | h | h
    · rw [h, e1] at nz; cases nz
    · rw [h, e2] at nz; cases nz
    · rw [h, e3] at nz; cases nz
    · exact r.old nz h
theorem Stk.len {K : PySem.W.Frag} {H : Hp} : ∀ {ts : List (Addr × Addr × Addr)} {S : List Hf}, Stk K H ts S → ts.length = S.length
  | _, _, .nil => rfl
  | _, _, .cons _ r _ _ _ => by rw [List.length_cons, List.length_cons, r.len]
def refsT (ts : List (Addr × Addr × Addr)) : List V := (ts.map fun t => V.ref t.1).reverse
theorem refsT_cons (t : Addr × Addr × Addr) (ts : List (Addr × Addr × Addr)) : refsT (t :: ts) = refsT ts ++ [V.ref t.1] := by
  unfold refsT
  rw [List.map_cons, List.reverse_cons]
theorem refsT_len (ts : List (Addr × Addr × Addr)) : (refsT ts).length = ts.length := by
  unfold refsT
  rw [List.length_reverse, List.length_map]
def duesK : List Str := (["N", "X"] : List Str) ++ takeKinds
/-- how much the stack holds -/
def szP : List Hf → Nat
  | [] => 0
  | h :: S => h.ps.length + 2 + szP S
def szD : List Hf → Nat
  | [] => 0
  | h :: S => h.du.length + szD S
theorem take_pr2 {w : Str} {d : PyData} (h : takeS "params" w = some d) : ∃ z : Str, d = .str z ∧ z.length ≤ 3 := by
  unfold takeS at h
  rw [show rngK "params" = none by decide +kernel] at h
  dsimp only at h
  rw [if_pos rfl] at h
  by_cases c : w = "-"
  · rw [if_pos c] at h
    cases h
    exact ⟨"", rfl, by decide⟩
  · rw [if_neg c] at h
    by_cases c2 : w ≠ "" ∧ prOk w = true
    · rw [if_pos c2] at h
      cases h
      have := c2.2
      unfold prOk at this
      rw [Bool.and_eq_true] at this
      exact ⟨w, rfl, of_decide_eq_true this.1⟩
    · rw [if_neg c2] at h
      cases h
theorem stp_paramsK {ws : List Str} {hd w z : Str} {ks : List Str} {ps : List PyData} {S : List Hf} {k : Nat} (hw : ws[k]? = some w) (ht : takeS "params" w = some (.str z)) : stp ws (⟨hd, "params" :: ks, ps⟩ :: S) k = .run (⟨hd, ks ++ prKinds z, ps ++ [.str z]⟩ :: S) (k + 1) := by
  show (if isF2 ("params" : Str) = true then (match beg ws k (decide (("params" : Str) = "N")) with
    | some g => Ms.run (g :: ⟨hd, ks, ps⟩ :: S) (k + 1)
    | none => .err (k + 1)) else match ws[k]?.bind (takeS "params") with
    | some d => Ms.run (⟨hd, ks ++ (match decide (("params" : Str) = "params"), d with
      | true, .str z => prKinds z
      | _, _ => []), ps ++ [d]⟩ :: S) (k + 1)
    | none => .err (k + 1)) = _
  rw [if_neg (by decide +kernel), hw, Option.bind_some, ht]
  dsimp only
  rw [decide_eq_true rfl]
theorem szP_len : ∀ S : List Hf, 2 * S.length ≤ szP S
  | [] => Nat.le_refl _
  | h :: S => by
    have := szP_len S
    simp only [szP, List.length_cons]
    omega
theorem beg_sz {ws : List Str} {k : Nat} {due : Bool} {g : Hf} (h : beg ws k due = some g) : (∀ u ∈ g.du, u ∈ duesK) ∧ g.ps.length ≤ 1 ∧ g.du.length ≤ 10 := by
  unfold beg at h
  cases e : ws[k]? with
  | none => rw [e] at h; cases h
  | some w =>
    rw [e] at h
    have h2 : begW due w = some g := h
    unfold begW at h2
    by_cases c1 : due = true ∧ isDec w = true
    · rw [if_pos c1] at h2
      by_cases c2 : valD w ≤ 999
      · rw [if_pos c2] at h2
        cases h2
        exact ⟨fun u hu => (by cases hu), Nat.le_refl _, Nat.zero_le _⟩
      · rw [if_neg c2] at h2
        cases h2
    · rw [if_neg c1] at h2
      cases ek : (if w = "is" ∨ w = "get" ∨ w = "at" then none else kindsOf due w) with
      | none =>
        rw [ek] at h2
        dsimp only at h2
        by_cases c2 : okS (if due then "reading" else "pointed") w = true
        · rw [if_pos c2] at h2
          cases h2
          exact ⟨fun u hu => (by cases hu), Nat.le_refl _, Nat.zero_le _⟩
        · rw [if_neg c2] at h2
          cases h2
      | some ks =>
        rw [ek] at h2
        cases h2
        have hk : kindsOf due w = some ks := by
          by_cases c3 : w = "is" ∨ w = "get" ∨ w = "at"
          · rw [if_pos c3] at ek
            cases ek
          · rw [if_neg c3] at ek
            exact ek
        refine ⟨fun u hu => ?_, Nat.zero_le _, Nat.le_trans (List.length_filter_le _ _) (kinds_len hk)⟩
        obtain ⟨m1, m2⟩ := List.mem_filter.mp hu
        have m2 := of_decide_eq_true m2
        unfold kindsOf at hk
        cases ef : (formsT due).find? fun p => decide (p.1 = w) with
        | none => rw [ef] at hk; cases hk
        | some pr =>
          rw [ef] at hk
          cases hk
          have := List.all_eq_true.mp (show (formsT due).all (fun p => p.2.all fun u => decide (u ≠ "forms" → u ∈ duesK)) = true by cases due <;> decide +kernel) pr (List.mem_of_find?_eq_some ef)
          exact of_decide_eq_true (List.all_eq_true.mp this u m1) m2
/-- the loop's state: the heap's stack is the machine's -/
def TfW (K : PySem.W.Frag) (x p D : Addr) (num : Int) (ws : List Str) (dv : V) (H : Hp) (Q : VK) (E : XK) (m : Nat) (σ : L2.St) (H' : Hp) : Prop := ∃ (S : List Hf) (ts : List (Addr × Addr × Addr)) (k : Nat) (v3 v4 v5 : Option V), σ = [some (.ref x), some dv, some (.ref D), v3, v4, v5] ∧ S ≠ [] ∧ H' D = some (.lst (refsT ts)) ∧ Stk K H' ts S ∧ D ∉ ownT ts ∧ (∀ z ∈ ownT ts, H z = none) ∧ LW K H' x p num ws k ∧ But x H H' ∧ (∀ h ∈ S, ∀ u ∈ h.du, u ∈ duesK) ∧ szP S ≤ 3 * k ∧ szD S ≤ 10 * k ∧ MsOk K x p num ws (go ws m S k) H Q E
theorem noLs_app : ∀ {a b : List PyData}, noLs a = true → noLs b = true → noLs (a ++ b) = true
  | [], _, _, h => h
  | d :: a, b, g, h => by
    rw [noLs, Bool.and_eq_true] at g
    rw [List.cons_append, noLs, g.1, noLs_app g.2 h]
    rfl
theorem noLs_take : ∀ (n : Nat) {a : List PyData}, noLs a = true → noLs (a.take n) = true
  | 0, _, _ => by rw [List.take_zero, noLs]
  | n + 1, [], h => h
  | n + 1, d :: a, g => by
    rw [noLs, Bool.and_eq_true] at g
    rw [List.take_succ_cons, noLs, g.1, noLs_take n g.2]
    rfl
theorem noLs_drop : ∀ (n : Nat) {a : List PyData}, noLs a = true → noLs (a.drop n) = true
  | 0, _, h => h
  | n + 1, [], h => h
  | n + 1, d :: a, g => by
    rw [noLs, Bool.and_eq_true] at g
    exact noLs_drop n g.2
theorem noL_str (z : Str) : noL (.str z) = true := by simp [noL]
theorem noL_whole {h : Hf} (n : noLs h.ps = true) : noL h.whole = true := by
  unfold Hf.whole
  by_cases c : h.hd = "call"
  · rw [if_pos c, noL, noLs, noL_str, noLs_app (noLs_take 2 n) (by rw [noLs, noL, noLs_drop 2 n, noLs]; rfl)]
    rfl
  · rw [if_neg c, noL, noLs, noL_str, n]
    rfl
theorem butU {D : Addr} {H : Hp} {o : HO} : But D H (upd H D o) := fun c z hc e => by rw [upd_ne hc]; exact e
theorem MsOk.zero {K : PySem.W.Frag} {x p : Addr} {num : Int} {ws : List Str} {m k : Nat} {S : List Hf} {H : Hp} {Q : VK} {E : XK} (h : MsOk K x p num ws (go ws m S k) H Q E) : ∃ n, m = n + 1 := by
  cases m with
  | zero => exact h.elim
  | succ n => exact ⟨n, rfl⟩
def spReadForm (K : PySem.W.Frag) : Sp := fun vs H Q E => ∃ (z : Str) (due : Bool), vs = [.str z, .str (if due then "number" else "thing")] ∧ z.length ≤ 90000 ∧ WsOk (wordsOf z) ∧ ((∃ d, RdOk (wordsOf z) due d ∧ ∀ H' v, Same H H' → Dv H' v d → Q v H') ∨ ∃ p : Nat, RdErr (wordsOf z) due p ∧ ∀ e H', Same H H' → H e = none → H' e = some (.xd [("line", .int 1), ("word", .int (p : Nat))]) → E (.ref (He.ga K "BadLine")) (some e) H')
def spParamsWord : Sp := fun vs H Q _ => ∃ z : Str, vs = [.str z] ∧ Q (.str (if z = "" then ("-" : Str) else z)) H
/-! ### writing of forms -/
def spFormParts : Sp := fun vs H Q _ => ∃ (a : Addr) (h : Str) (xs : List V), vs = [.ref a] ∧ H a = some (.tup (.str h :: xs)) ∧ xs.length ≤ 1000 ∧
  (((h = "is" ∨ h = "get" ∨ h = "at") ∧ ∃ y, xs = [y] ∧ ∀ r H', Same H H' → H r = none → H' r = some (.lst [y]) → Q (.ref r) H') ∨
   (h = "call" ∧ ∃ (nm pr : Str) (t : Addr) (ys : List V), xs = [.str nm, .str pr, .ref t] ∧ H t = some (.tup ys) ∧ ys.length ≤ 1000 ∧ ∀ r H', Same H H' → H r = none → H' r = some (.lst (.str "call" :: .str nm :: .str (if pr = "" then ("-" : Str) else pr) :: ys)) → Q (.ref r) H') ∨
   (¬ (h = "is" ∨ h = "get" ∨ h = "at") ∧ h ≠ "call" ∧ ∀ r H', Same H H' → H r = none → H' r = some (.lst (.str h :: xs)) → Q (.ref r) H'))
/-! ### the words of a form -/
theorem char_dig : ∀ d : Nat, d < 58 → (Char.ofNat d).toNat = d := by decide
theorem dec_str {w : Str} (h : isDec w = true) : w = strN (valD w) := by
  obtain ⟨⟨a1, a2⟩, b, c⟩ := dec_parts h
  have lw : w.cps.toList.length = w.length := Array.length_toList
  refine str_ext ?_
  rw [strN_tl]
  unfold valD numL
  have key := NumText.toDigits_digitsVal (w.length - 1) w.cps.toList (by omega) (fun d hd => b d hd) (by
    cases e : w.cps.toList with
    | nil =>
      rw [e, List.length_nil] at lw
      omega
    | cons x r =>
      have hx := b x (by rw [e]; exact List.mem_cons_self)
      by_cases q : x = 48
      · have z := c (by rw [e, q]; rfl)
        left
        rw [z]
        rfl
      · exact .inr ⟨x, r, rfl, by omega⟩)
  rw [key, List.map_map]
  exact ((List.map_congr_left fun d hd => char_dig d (by have := b d hd; omega)).trans (List.map_id _)).symm
theorem rng_le {k : Str} {lo hi : Nat} (e : rngK k = some (lo, hi)) : hi ≤ 999 := by
  unfold rngK at e
  by_cases e1 : k = "integer"
  · rw [if_pos e1] at e; cases e; decide
  · rw [if_neg e1] at e
    by_cases e2 : k = "chances"
    · rw [if_pos e2] at e; cases e; decide
    · rw [if_neg e2] at e; cases e
theorem takeS_word {k w : Str} {d : PyData} (np : k ≠ "params") (h : takeS k w = some d) : (∃ i : Nat, i ≤ 999 ∧ d = .int (i : Nat) ∧ w = strN i) ∨ d = .str w := by
  unfold takeS at h
  split at h
  · rename_i lo hi e
    have hh := rng_le e
    by_cases e2 : isDec w = true ∧ lo ≤ valD w ∧ valD w ≤ hi
    · rw [if_pos e2] at h
      cases h
      exact .inl ⟨valD w, by omega, rfl, dec_str e2.1⟩
    · rw [if_neg e2] at h
      cases h
  · rw [if_neg np] at h
    by_cases ho : okS k w = true
    · rw [if_pos ho] at h
      cases h
      exact .inr rfl
    · rw [if_neg ho] at h
      cases h
/-- the words of a stack of data, top first -/
inductive WsF : List PyData → List Str → Prop
  | nil : WsF [] []
  | int {i : Nat} {ds : List PyData} {ws : List Str} : i ≤ 999 → WsF ds ws → WsF (.int (i : Nat) :: ds) (strN i :: ws)
  | str {z : Str} {ds : List PyData} {ws : List Str} : WsF ds ws → WsF (.str z :: ds) (z :: ws)
  | fm {due : Bool} {lv : Nat} {d : PyData} {w : List Str} {ds : List PyData} {ws : List Str} : Fm due lv d w → WsF ds ws → WsF (d :: ds) (w ++ ws)
theorem pts_wsf {lv : Nat} : ∀ {ks : List Str} {ds : List PyData} {w : List Str}, Pts lv ks ds w → ∀ {S : List PyData} {ws : List Str}, WsF S ws → WsF (ds ++ S) (w ++ ws)
  | [], _, _, h, S, ws, r => by
    cases h
    exact r
  | k :: ks, _, _, h, S, ws, r => by
    cases h with
    | sm f2 np ht hr =>
      have ih := pts_wsf hr r
      rcases takeS_word np ht with ⟨i, hi, rfl, rfl⟩ | rfl
      · exact .int hi ih
      · exact .str ih
    | fm f2 hf hr =>
      have ih := pts_wsf hr r
      rw [List.append_assoc]
      exact .fm hf ih
mutual
def dsz : PyData → Nat
  | .tuple ds => 1 + dszs ds
  | _ => 1
def dszs : List PyData → Nat
  | [] => 0
  | d :: ds => dsz d + dszs ds
end
theorem dszs_app : ∀ a b : List PyData, dszs (a ++ b) = dszs a + dszs b
  | [], b => by rw [List.nil_append, dszs, Nat.zero_add]
  | d :: a, b => by rw [List.cons_append, dszs, dszs, dszs_app a b, Nat.add_assoc]
theorem dsz_int (i : Int) : dsz (.int i) = 1 := by simp [dsz]
theorem dsz_str (z : Str) : dsz (.str z) = 1 := by simp [dsz]
theorem dsz_pos (d : PyData) : 1 ≤ dsz d := by
  cases d <;> simp [dsz] <;> omega
theorem noL_int (i : Int) : noL (.int i) = true := by simp [noL]
def FmN (lv : Nat) : Prop := ∀ {due : Bool} {d : PyData} {w : List Str}, Fm due lv d w → noL d = true
theorem pts_n {lv : Nat} (P : FmN lv) : ∀ {ks : List Str} {ds : List PyData} {w : List Str}, Pts lv ks ds w → noLs ds = true
  | [], _, _, h => by
    cases h
    rw [noLs]
  | k :: ks, _, _, h => by
    cases h with
    | sm f2 np ht hr =>
      rw [noLs, pts_n P hr, vD_nl ht]
      rfl
    | fm f2 hf hr =>
      rw [noLs, pts_n P hr, P hf]
      rfl
theorem fm_n : ∀ lv, FmN lv := by
  have two : ∀ {h : Str} {d : PyData}, noL d = true → noL (.tuple [.str h, d]) = true := fun {h d} e => by
    rw [noL, noLs, noL_str, noLs, e, noLs]
    rfl
  intro lv
  induction lv with
  | zero =>
    intro due d w h
    cases h with
    | is hi => exact two (noL_int _)
    | get hz => exact two (noL_str _)
    | «at» hz => exact two (noL_str _)
  | succ lv ih =>
    intro due d w h
    cases h with
    | is hi => exact two (noL_int _)
    | get hz => exact two (noL_str _)
    | «at» hz => exact two (noL_str _)
    | call hn hp hr =>
      rw [noL, noLs, noL_str, noLs, noL_str, noLs, noL_str, noLs, noL, pts_n ih hr, noLs]
      rfl
    | nd ht h1 h2 h3 h4 hr =>
      rw [noL, noLs, noL_str, pts_n ih hr]
      rfl
theorem join_size {ws : List Str} (h : ∀ x ∈ ws, plainW x = true) (hl : ws.length ≤ 100000) : (ws.map (·.length)).sum + ws.length * ((" " : Str)).length ≤ 16777216 := by
  have key : ∀ l : List Str, (∀ x ∈ l, plainW x = true) → (l.map (·.length)).sum ≤ 12 * l.length := by
    intro l
    induction l with
    | nil => intro _; exact Nat.le_refl _
    | cons a l ih =>
      intro hh
      have := ih fun x hx => hh x (List.mem_cons_of_mem _ hx)
      have := (plain_parts (hh a List.mem_cons_self)).1
      rw [List.map_cons, List.sum_cons, List.length_cons]
      omega
  have := key ws h
  rw [show (" " : Str).length = 1 by decide +kernel]
  omega
theorem wB_mono {a b : Nat} (h : a ≤ b) : wB a ≤ wB b := by
  induction h with
  | refl => exact Nat.le_refl _
  | @step m _ ih => exact Nat.le_trans ih (by show wB m ≤ 3 * wB m + 3; omega)
theorem fm_size {due : Bool} {lv : Nat} {d : PyData} {w : List Str} (h : Fm due lv d w) (hl : lv ≤ 6) : (∀ x ∈ w, plainW x = true) ∧ 1 ≤ w.length ∧ w.length ≤ 1821 := by
  obtain ⟨a, b, c⟩ := fm_w lv h
  have := wB_mono hl
  have e : wB 6 = 1821 := by decide +kernel
  exact ⟨a, b, by omega⟩
def spWriteForm : Sp := fun vs H Q _ => ∃ (v : V) (d : PyData) (due : Bool) (lv : Nat) (w : List Str), vs = [v] ∧ Dv H v d ∧ Fm due lv d w ∧ lv ≤ 6 ∧ ∀ H', Same H H' → Q (.str (Txt.join " " w)) H'
/-- the loop's state: done and rest are the words -/
def WfW (w : List Str) (v : V) (W D : Addr) (H : Hp) (m : Nat) (σ : L2.St) (H' : Hp) : Prop := ∃ (done : List Str) (xs : List V) (S : List PyData) (rest : List Str) (vt : Option V), σ = [some v, some (.ref W), some (.ref D), vt] ∧ H' W = some (.lst (ms done)) ∧ H' D = some (.lst xs.reverse) ∧ DvAll H' xs S ∧ noLs S = true ∧ WsF S rest ∧ done ++ rest = w ∧ m = dszs S ∧ Same H H'
theorem wsf_len : ∀ {S : List PyData} {ws : List Str}, WsF S ws → S.length ≤ ws.length
  | _, _, .nil => Nat.le_refl _
  | _, _, .int _ h => Nat.succ_le_succ (wsf_len h)
  | _, _, .str h => Nat.succ_le_succ (wsf_len h)
  | _, _, .fm hf h => by
    have := wsf_len h
    have := (fm_w _ hf).2.1
    rw [List.length_cons, List.length_append]
    omega
theorem kb_int_tup : kitB "int" "tuple" = some false := by decide +kernel
theorem kb_str_tup : kitB "str" "tuple" = some false := by decide +kernel
/-! ### the law of forms -/
def S1 (c : Nat) : Str := ⟨#[c]⟩
theorem seqIx {i n : Nat} (h : i < n) : seqIndex? (i : Int) n = some i := by
  unfold seqIndex?
  have e : ¬ ((i : Int) < 0) := by omega
  simp only [e, if_false]
  rw [if_pos (by simp; omega)]
  rfl
theorem eidx_perm {α : Type} {l : List α} {m : Nat} (h : m < l.length) : (l[m] :: l.eraseIdx m).Perm l := by
  rw [List.eraseIdx_eq_take_drop_succ]
  refine List.perm_middle.symm.trans ?_
  rw [← List.drop_eq_getElem_cons h, List.take_append_drop]
theorem ni_nat {n : Int} (h : 0 ≤ n) : ∃ m : Nat, n = (m : Nat) := ⟨n.toNat, by omega⟩
def spChoiceL : Sp := fun vs H Q _ => ∃ (b p : Addr) (xs : List V), vs = [.ref b, .ref p] ∧ Bag H b ∧ H p = some (.lst xs) ∧ 0 < xs.length ∧ xs.length ≤ 100000 ∧ ∀ (v : V) (H' : Hp), v ∈ xs → Kp b H H' → Q v H'
def spOneIn : Sp := fun vs H Q _ => ∃ (b : Addr) (m : Int), vs = [.ref b, .int m] ∧ Bag H b ∧ 0 < m ∧ m < 1073741824 ∧ ∀ (c : Bool) (H' : Hp), Kp b H H' → Q (.bl c) H'
def spShuf : Sp := fun vs H Q _ => ∃ (b p : Addr) (xs : List V), vs = [.ref b, .ref p] ∧ Bag H b ∧ H p = some (.lst xs) ∧ xs.length ≤ 1000 ∧ ∀ q ys H', List.Perm ys xs → Kp b H H' → H q = none → H' q = some (.lst ys) → Q (.ref q) H'
def spLetters : Sp := fun vs H Q _ => ∃ (b : Addr) (n : Nat), vs = [.ref b, .int (n : Nat)] ∧ Bag H b ∧ n ≤ 50 ∧ ∀ (z : Str) (H' : Hp), z.length = n → (∀ c ∈ z.cps.toList, c ∈ lets26.cps.toList) → Kp b H H' → Q (.str z) H'
theorem join_S1 (cs : List Nat) : (Txt.join "" (cs.map S1)).cps.toList = cs := by
  rw [join0_list, List.map_map]
  induction cs with
  | nil => rfl
  | cons c l ih =>
    rw [List.map_cons, List.flatten_cons, ih]
    rfl
theorem sum_S1 (cs : List Nat) : ((cs.map S1).map (·.length)).sum = cs.length := by
  rw [List.map_map]
  induction cs with
  | nil => rfl
  | cons c l ih =>
    rw [List.map_cons, List.sum_cons, ih]
    show 1 + l.length = l.length + 1
    omega
theorem join_fits {cs : List Nat} (h : cs.length ≤ 100000) : (((cs.map S1).map (·.length)).sum + (cs.map S1).length * (("" : Str)).length) ≤ 16777216 := by
  rw [sum_S1]
  have e2 : (("" : Str)).length = 0 := rfl
  rw [e2]
  omega
theorem join_len (cs : List Nat) : (Txt.join "" (cs.map S1)).length = cs.length := by
  show (Txt.join "" (cs.map S1)).cps.size = _
  rw [← Array.length_toList, join_S1]
def spResL : Sp := fun vs H Q _ => vs = [] ∧ ∀ p H', Same H H' → H p = none → H' p = some (.lst (ms resW)) → Q (.ref p) H'
def spNameL : Sp := fun vs H Q _ => ∃ b : Addr, vs = [.ref b] ∧ Bag H b ∧ ∀ (z : Str) (H' : Hp), isNm z = true → Kp b H H' → Q (.str z) H'
theorem nm_lets {z : Str} (h1 : 1 ≤ z.length) (h2 : z.length ≤ 12) (h3 : z ∉ resW) (h4 : ∀ c ∈ z.cps.toList, c ∈ lets26.cps.toList) : isNm z = true := by
  unfold isNm
  rw [decide_eq_true ⟨h1, h2⟩, decide_eq_false h3]
  exact List.all_eq_true.mpr fun c hc => decide_eq_true (h4 c hc)
theorem nm_qq {z : Str} (h : z ∈ resW) : isNm (z ++ "qq") = true := by
  have := List.all_eq_true.mp (show resW.all (fun z => isNm (z ++ "qq")) = true by decide +kernel) z h
  exact this
def badD (n : Nat) : PyData := .list [.int 1, .int (n : Nat)]
def spBadL : Sp := fun vs H Q _ => ∃ n : Nat, vs = [.int (n : Nat)] ∧ n ≤ 1000000 ∧ ∀ r H', Same H H' → H r = none → H' r = some (.lst [.str "bad", .str (badD n).shown]) → Q (.ref r) H'
theorem sm_bad {n : Nat} (h : n ≤ 1000000) : Sm (badD n) 1 33 := by
  refine (sm_list (m := 0) (k := 13) ?_).mono (Nat.le_refl _) (Nat.le_refl _)
  intro d hd
  simp only [List.mem_cons, List.not_mem_nil, or_false] at hd
  rcases hd with rfl | rfl
  · exact sm_int (by decide) (by decide)
  · exact sm_int (by omega) (by omega)
/-! ### displays of rows of constants -/
def cTA : List V → TA
  | [] => tNil
  | v :: vs => tCons (tC v) (cTA vs)
theorem cTA_run : ∀ (vs : List V) (σ : L2.St) (H : Hp) (R : List V → Hp → Prop), R vs H → cTA vs σ H R
  | [], σ, H, R, h => h
  | v :: vs, σ, H, R, h => cTA_run vs σ H (fun ws H1 => R (v :: ws) H1) h
def rowsT (rows : List (Str × List V)) : List (TE × TE) := rows.map fun r => (tC (.str r.1), tLst (cTA r.2))
inductive RowsAt (H : Hp) : List (V × V) → List (Str × List V) → Prop
  | nil : RowsAt H [] []
  | cons {k : Str} {a : Addr} {vs : List V} {ps : List (V × V)} {rs : List (Str × List V)} : H a = some (.lst vs) → RowsAt H ps rs → RowsAt H ((.str k, .ref a) :: ps) ((k, vs) :: rs)
theorem RowsAt.same {H H' : Hp} (s : Same H H') : ∀ {ps : List (V × V)} {rs : List (Str × List V)}, RowsAt H ps rs → RowsAt H' ps rs
  | _, _, .nil => .nil
  | _, _, .cons h r => .cons (s _ _ h) (r.same s)
theorem RowsAt.but {H : Hp} {p : Addr} {kvs kvs2 : List (Key × V)} (hp : H p = some (.dK kvs)) : ∀ {ps : List (V × V)} {rs : List (Str × List V)}, RowsAt H ps rs → RowsAt (upd H p (.dK kvs2)) ps rs
  | _, _, .nil => .nil
  | _, _, .cons (a := a) h r => .cons (by
    rw [upd_ne (fun e => by rw [e, hp] at h; cases h)]
    exact h) (r.but hp)
theorem pairs_run : ∀ (rows : List (Str × List V)) (σ : L2.St) (H : Hp) (R : List (V × V) → Hp → Prop), (∀ r ∈ rows, r.2.length ≤ 1000) → (∀ ps H', Same H H' → RowsAt H' ps rows → R ps H') → tPairs (rowsT rows) σ H R
  | [], σ, H, R, _, h => h [] H (Same.refl H) .nil
  | r :: rows, σ, H, R, hl, h => by
    show tPairs ((tC (.str r.1), tLst (cTA r.2)) :: rowsT rows) σ H R
    refine cTA_run r.2 σ H _ ⟨Nat.le_trans (hl r List.mem_cons_self) (by decide), fun p np => ?_⟩
    refine pairs_run rows σ _ _ (fun q hq => hl q (List.mem_cons_of_mem _ hq)) fun ps H' s hR => ?_
    exact h _ H' ((same_new np).trans s) (.cons (s _ _ upd_same) hR)
theorem RowsAt.kvs {H : Hp} : ∀ {ps : List (V × V)} {rs : List (Str × List V)}, RowsAt H ps rs → ∃ kvs : List (Key × V), ps = kvs.map (fun kv => (kV kv.1, kv.2)) ∧ kvs.map (·.1) = rs.map fun r => (.inr r.1 : Key)
  | _, _, .nil => ⟨[], rfl, rfl⟩
  | _, _, .cons (k := k) (a := a) h r => by
    obtain ⟨kvs, e1, e2⟩ := r.kvs
    refine ⟨(.inr k, .ref a) :: kvs, ?_, ?_⟩
    · rw [List.map_cons, ← e1]
      rfl
    · rw [List.map_cons, e2, List.map_cons]
theorem mergeK_nd : ∀ (more kvs : List (Key × V)), ((kvs ++ more).map (·.1)).Nodup → mergeK kvs more = kvs ++ more
  | [], kvs, _ => by
    rw [List.append_nil]
    rfl
  | kv :: more, kvs, h => by
    show mergeK (putK kvs kv.1 kv.2) more = _
    have hn : (kvs.any fun z => decide (z.1 = kv.1)) = false := by
      rw [List.any_eq_false]
      intro z hz e
      have e2 := of_decide_eq_true e
      rw [List.map_append, List.nodup_append] at h
      exact h.2.2 z.1 (List.mem_map.mpr ⟨z, hz, rfl⟩) kv.1 (by simp) e2
    have ep : putK kvs kv.1 kv.2 = kvs ++ [kv] := by
      unfold putK
      rw [hn]
      rfl
    rw [ep, mergeK_nd more (kvs ++ [kv]) (by rw [List.append_assoc]; exact h), List.append_assoc]
    rfl
theorem disp_run (rows : List (Str × List V)) (σ : L2.St) (H : Hp) (Q : VK) (hl : ∀ r ∈ rows, r.2.length ≤ 1000) (h15 : rows.length ≤ 15) (nd : (rows.map fun r => (.inr r.1 : Key)).Nodup)
    (q : ∀ p kvs H', Same H H' → H p = none → RowsAt H' (kvs.map fun kv => (kV kv.1, kv.2)) rows → kvs.map (·.1) = rows.map (fun r => (.inr r.1 : Key)) → H' p = some (.dK kvs) → Q (.ref p) H') : tDisp (rowsT rows) σ H Q := by
  intro p np
  refine pairs_run rows σ _ _ hl fun ps H' s hR => ⟨s _ _ upd_same, ?_⟩
  obtain ⟨kvs, e1, e2⟩ := hR.kvs
  subst e1
  have ek : mergeK [] kvs = kvs := (mergeK_nd kvs [] (by rw [List.nil_append, e2]; exact nd)).trans (List.nil_append _)
  have el : kvs.length = rows.length := by
    have := congrArg List.length e2
    rw [List.length_map, List.length_map] at this
    exact this
  refine ⟨kvs, rfl, by omega, ?_⟩
  rw [ek]
  have hp : H' p = some (.dK []) := s _ _ upd_same
  refine q p kvs _ (fun c o hc => ?_) np ?_ e2 upd_same
  · have hcp : c ≠ p := fun e => by rw [e, np] at hc; cases hc
    rw [upd_ne hcp]
    exact s _ _ (by rw [upd_ne hcp]; exact hc)
  · exact RowsAt.but hp hR
def rngRows : List (Str × List V) := [("integer", [.int 0, .int 999]), ("rounds", [.int 1, .int 50]), ("ending", [.int 1, .int 9]), ("chances", [.int 1, .int 100]), ("size", [.int 1, .int 30000]), ("many", [.int 1, .int 30])]
/-- a fresh dict of rows -/
def spRowsD (rows : List (Str × List V)) : Sp := fun vs H Q _ => vs = [] ∧ ∀ p kvs H', Same H H' → H p = none → RowsAt H' (kvs.map fun kv => (kV kv.1, kv.2)) rows → kvs.map (·.1) = rows.map (fun r => (.inr r.1 : Key)) → H' p = some (.dK kvs) → Q (.ref p) H'
def knRows : List (Str × List V) := [("mark", ms ["open", "lit", "person", "hidden"]), ("rule", ms ["before", "after", "orders"]), ("counter", ms ["a", "b", "c", "d"]), ("reading", ms ["a", "b", "c", "d", "value", "turns"]), ("pointer", ms ["x", "y", "z"]), ("letter", ms ["x", "y", "z"]), ("pointing", ms ["nothing"]), ("pointed", ms ["x", "y", "z", "self", "noun", "second", "actor", "player"])]
def knOf (k : Str) : List V := ((knRows.find? fun r => decide (r.1 = k)).map (·.2)).getD []
def spKnownL : Sp := fun vs H Q _ => ∃ k : Str, vs = [.str k] ∧ ∀ r H', Same H H' → H' r = some (.lst (knOf k)) → Q (.ref r) H'
theorem RowsAt.val {H : Hp} (k : Str) : ∀ {kvs : List (Key × V)} {rs : List (Str × List V)}, RowsAt H (kvs.map fun kv => (kV kv.1, kv.2)) rs → kvs.map (·.1) = rs.map (fun r => (.inr r.1 : Key)) → (rs.find? (fun r => decide (r.1 = k)) = none ∧ valV kvs (.inr k) = none) ∨ ∃ r a, rs.find? (fun r => decide (r.1 = k)) = some r ∧ valV kvs (.inr k) = some (.ref a) ∧ H a = some (.lst r.2)
  | [], [], _, _ => .inl ⟨rfl, rfl⟩
  | [], _ :: _, _, e => by cases e
  | _ :: _, [], _, e => by cases e
  | kv :: kvs, r :: rs, h, e => by
    rw [List.map_cons, List.map_cons] at e
    injection e with e1 e2
    rw [List.map_cons] at h
    generalize ep : (kV kv.1, kv.2) = pr at h
    cases h with
    | @cons k2 a vs ps rs ha hr =>
      have hv : kv.2 = .ref a := congrArg Prod.snd ep
      by_cases c : k2 = k
      · right
        refine ⟨(k2, vs), a, List.find?_cons_of_pos (decide_eq_true c), ?_, ha⟩
        rw [valV_pos (by rw [e1]; exact congrArg Sum.inr c), hv]
      · rcases hr.val k e2 with ⟨n1, n2⟩ | ⟨r, a2, n1, n2, n3⟩
        · left
          refine ⟨by rw [List.find?_cons_of_neg (by simpa using c)]; exact n1, ?_⟩
          rw [valV_neg (by rw [e1]; exact fun z => c (Sum.inr.inj z))]
          exact n2
        · right
          refine ⟨r, a2, by rw [List.find?_cons_of_neg (by simpa using c)]; exact n1, ?_, n3⟩
          rw [valV_neg (by rw [e1]; exact fun z => c (Sum.inr.inj z))]
          exact n2
/-! ### a display of more than seventeen rows -/
def keysR (rows : List (Str × List V)) : List Key := rows.map fun r => (.inr r.1 : Key)
def prsK (kvs : List (Key × V)) : List (V × V) := kvs.map fun kv => (kV kv.1, kv.2)
theorem RowsAt.app {H : Hp} : ∀ {ps qs : List (V × V)} {rs ts : List (Str × List V)}, RowsAt H ps rs → RowsAt H qs ts → RowsAt H (ps ++ qs) (rs ++ ts)
  | _, _, _, _, .nil, h => h
  | _, _, _, _, .cons a r, h => .cons a (r.app h)
theorem putK_new {kvs : List (Key × V)} {k : Key} {v : V} (h : k ∉ kvs.map (·.1)) : putK kvs k v = kvs ++ [(k, v)] := by
  unfold putK
  rw [if_neg]
  intro e
  obtain ⟨z, hz, e2⟩ := List.any_eq_true.mp e
  exact h (List.mem_map.mpr ⟨z, hz, of_decide_eq_true e2⟩)
theorem long_run : ∀ (rows done : List (Str × List V)) (kvs0 : List (Key × V)) (σ : L2.St) (H : Hp) (p : Addr) (Q : Hp → Prop), (∀ r ∈ rows, r.2.length ≤ 1000) → H p = some (.dK kvs0) → RowsAt H (prsK kvs0) done → kvs0.map (·.1) = keysR done → (keysR (done ++ rows)).Nodup → done.length + rows.length ≤ 100 →
    (∀ kvs H', But p H H' → H' p = some (.dK kvs) → RowsAt H' (prsK kvs) (done ++ rows) → kvs.map (·.1) = keysR (done ++ rows) → Q H') → tLong (rowsT rows) σ H p Q
  | [], done, kvs0, σ, H, p, Q, _, hp, ra, ek, _, _, h => by
    refine h kvs0 H (fun b o _ z => z) hp ?_ ?_
    · rw [List.append_nil]; exact ra
    · rw [List.append_nil]; exact ek
  | r :: rows, done, kvs0, σ, H, p, Q, hl, hp, ra, ek, nd, sz, h => by
    show tLong ((tC (.str r.1), tLst (cTA r.2)) :: rowsT rows) σ H p Q
    refine cTA_run r.2 σ H _ ⟨Nat.le_trans (hl r List.mem_cons_self) (by decide), fun a na => ?_⟩
    have apn : p ≠ a := fun e => by rw [← e, hp] at na; cases na
    have sa := same_new (o := .lst r.2) na
    have hp1 := sa _ _ hp
    have l0 : kvs0.length = done.length := by
      have := congrArg List.length ek
      rw [keysR, List.length_map, List.length_map] at this
      exact this
    rw [List.length_cons] at sz
    refine ⟨kvs0, .inr r.1, hp1, rfl, by omega, ?_⟩
    have hn : (.inr r.1 : Key) ∉ kvs0.map (·.1) := by
      rw [ek]
      intro m
      unfold keysR at nd m
      rw [List.map_append, List.map_cons, List.nodup_append] at nd
      exact nd.2.2 _ m _ List.mem_cons_self rfl
    rw [putK_new hn]
    have e1 : done ++ r :: rows = (done ++ [r]) ++ rows := by rw [List.append_assoc]; rfl
    have ha : (upd (upd H a (.lst r.2)) p (.dK (kvs0 ++ [(.inr r.1, .ref a)]))) a = some (.lst r.2) := by rw [upd_ne (Ne.symm apn)]; exact upd_same
    have bp : But p H (upd (upd H a (.lst r.2)) p (.dK (kvs0 ++ [(.inr r.1, .ref a)]))) := fun b o hb e => by rw [upd_ne hb]; exact sa _ _ e
    refine long_run rows (done ++ [r]) _ σ _ p Q (fun x hx => hl x (List.mem_cons_of_mem _ hx)) upd_same ?_ ?_ (by rw [← e1]; exact nd) ?_ fun kvs H' b hp2 ra2 ek2 => ?_
    · unfold prsK
      rw [List.map_append]
      exact RowsAt.app (RowsAt.but hp1 (ra.same sa)) (.cons ha .nil)
    · unfold keysR at ek ⊢
      rw [List.map_append, List.map_append, ek]
      rfl
    · rw [List.length_append, List.length_singleton]
      omega
    · rw [← e1] at ra2 ek2
      exact h kvs H' (bp.trans b) hp2 ra2 ek2
theorem dispL_run (rows rows2 : List (Str × List V)) (σ : L2.St) (H : Hp) (Q : VK) (hl : ∀ r ∈ rows, r.2.length ≤ 1000) (hl2 : ∀ r ∈ rows2, r.2.length ≤ 1000) (h0 : rows ≠ []) (h17 : rows.length ≤ 17) (h15 : rows2.length ≤ 15) (nd : (keysR (rows ++ rows2)).Nodup)
    (q : ∀ p kvs H', Same H H' → H p = none → RowsAt H' (kvs.map fun kv => (kV kv.1, kv.2)) (rows ++ rows2) → kvs.map (·.1) = (rows ++ rows2).map (fun r => (.inr r.1 : Key)) → H' p = some (.dK kvs) → Q (.ref p) H') : tDispL (rowsT rows) (rowsT rows2) σ H Q := by
  intro p np
  have ndr : (keysR rows).Nodup := by
    unfold keysR at nd ⊢
    rw [List.map_append, List.nodup_append] at nd
    exact nd.1
  refine long_run rows [] [] σ _ p _ hl upd_same .nil rfl ndr (by simp; omega) fun kvs1 H1 b1 hp1 ra1 ek1 => ?_
  rw [List.nil_append] at ra1 ek1
  have l1 : kvs1.length = rows.length := by
    have := congrArg List.length ek1
    rw [keysR, List.length_map, List.length_map] at this
    exact this
  have s1 : Same H H1 := fun c o hc => b1 _ _ (fun e => by rw [e, np] at hc; cases hc) (same_new np _ _ hc)
  refine ⟨kvs1, hp1, ?_, by omega, fun q1 nq => ?_⟩
  · intro e
    rw [e] at l1
    exact h0 (List.length_eq_zero_iff.mp l1.symm)
  refine pairs_run rows2 σ _ _ hl2 fun ps H2 s2 hR => ?_
  have sq := same_new (o := .dK []) nq
  have hp2 := s2 _ _ (sq _ _ hp1)
  have hq2 := s2 _ _ (upd_same (H := H1) (a := q1) (o := .dK []))
  have npq : p ≠ q1 := fun e => by rw [← e, hp1] at nq; cases nq
  refine ⟨hq2, hp2, ?_⟩
  obtain ⟨kvs, e1, e2⟩ := hR.kvs
  subst e1
  have l2 : kvs.length = rows2.length := by
    have := congrArg List.length e2
    rw [List.length_map, List.length_map] at this
    exact this
  have nd2 : ((kvs1 ++ kvs).map (·.1)).Nodup := by
    rw [List.map_append, ek1, e2]
    unfold keysR at nd ⊢
    rw [List.map_append] at nd
    exact nd
  have m1 : mergeK [] kvs = kvs := (mergeK_nd kvs [] (by
    rw [List.nil_append]
    rw [List.map_append, List.nodup_append] at nd2
    exact nd2.2.1)).trans (List.nil_append _)
  refine ⟨kvs, rfl, by omega, ?_⟩
  rw [m1, mergeK_nd kvs kvs1 nd2]
  have hp3 : (upd H2 q1 (.dK kvs)) p = some (.dK kvs1) := by rw [upd_ne npq]; exact hp2
  refine q p (kvs1 ++ kvs) _ (fun c o hc => ?_) np ?_ ?_ upd_same
  · have c1 : c ≠ p := fun e => by rw [e, np] at hc; cases hc
    have c2 : c ≠ q1 := fun e => by
      have := s1 _ _ hc
      rw [e, nq] at this
      cases this
    rw [upd_ne c1, upd_ne c2]
    exact s2 _ _ (sq _ _ (s1 _ _ hc))
  · rw [List.map_append]
    exact RowsAt.but hp3 (RowsAt.but hq2 (RowsAt.app ((ra1.same sq).same s2) hR))
  · rw [List.map_append, List.map_append, ek1, e2]
    rfl
def kindX : List (Str × List V) := [("nothing", ms []), ("at", ms ["pointed"]), ("holder", ms ["X"]), ("first", ms ["X"]), ("beside", ms ["X"]), ("place", ms ["X"]), ("link", ms ["X", "link"]), ("toward", ms ["X", "N"])]
def kindN1 : List (Str × List V) := [("is", ms ["integer"]), ("get", ms ["reading"]), ("not", ms ["N"]), ("same", ms ["X", "X"]), ("in", ms ["X", "X"]), ("within", ms ["X", "X"]), ("has", ms ["X", "mark"]), ("doing", ms ["action"]), ("of", ms ["X", "number"]), ("parts", ms ["X"]), ("load", ms ["row", "N"]), ("random", ms ["chances"]), ("light", ms []), ("call", ms ["routine", "letters"]), ("send", ms ["X", "rule"]), ("pass", ms []), ("add", ms ["N", "N"])]
def kindN2 : List (Str × List V) := [("sub", ms ["N", "N"]), ("mul", ms ["N", "N"]), ("div", ms ["N", "N"]), ("mod", ms ["N", "N"]), ("eq", ms ["N", "N"]), ("less", ms ["N", "N"]), ("and", ms ["N", "N"]), ("or", ms ["N", "N"])]
def kindR (due : Bool) : List (Str × List V) := if due then kindN1 ++ kindN2 else kindX
def spKindsL : Sp := fun vs H Q _ => ∃ due : Bool, vs = [.str (if due then "N" else "X")] ∧ ∀ p kvs H', Same H H' → H p = none → RowsAt H' (kvs.map fun kv => (kV kv.1, kv.2)) (kindR due) → kvs.map (·.1) = (kindR due).map (fun r => (.inr r.1 : Key)) → H' p = some (.dK kvs) → Q (.ref p) H'
/-! ### small parts -/
def smallK : List Str := ["integer", "reading", "mark", "action", "number", "row", "chances", "rule", "pointed", "link"]
def spSmallL : Sp := fun vs H Q _ => ∃ (b : Addr) (kd : Str), vs = [.ref b, .str kd] ∧ kd ∈ smallK ∧ Bag H b ∧ ∀ w d H', takeS kd w = some d → Kp b H H' → Q (vD d) H'
theorem take_int {kd : Str} {lo hi n : Nat} (e : rngK kd = some (lo, hi)) (h1 : lo ≤ n) (h2 : n ≤ hi) : takeS kd (strN n) = some (.int (n : Nat)) := by
  have := rng_le e
  unfold takeS
  rw [e]
  dsimp only
  rw [strN_val, if_pos ⟨strN_dec (by omega), h1, h2⟩]
theorem small_facts {kd : Str} (h : kd ∈ smallK) : kd ≠ "letter" ∧ kd ≠ "params" ∧ knOf kd = ms (known kd) ∧ (rngK kd = none → (rngRows.find? fun r => decide (r.1 = kd)) = none) ∧ (∀ lo hi, rngK kd = some (lo, hi) → lo ≤ hi ∧ (rngRows.find? fun r => decide (r.1 = kd)) = some (kd, [.int (lo : Nat), .int (hi : Nat)])) := by
  simp only [smallK, List.mem_cons, List.not_mem_nil, or_false] at h
  rcases h with rfl | rfl | rfl | rfl | rfl | rfl | rfl | rfl | rfl | rfl <;> refine ⟨by decide +kernel, by decide +kernel, by decide +kernel, ?_, ?_⟩
  all_goals first
    | (intro _; decide +kernel)
    | (intro e; exact absurd e (by decide +kernel))
    | (intro lo hi e; exact absurd e (by
        rw [show rngK _ = none by decide +kernel]
        intro z
        cases z))
    | (intro lo hi e
       have e2 : some (0, 999) = some (lo, hi) := Eq.trans (by decide +kernel) e
       cases e2
       exact ⟨by decide, by decide +kernel⟩)
    | (intro lo hi e
       have e2 : some (1, 100) = some (lo, hi) := Eq.trans (by decide +kernel) e
       cases e2
       exact ⟨by decide, by decide +kernel⟩)
/-! ### texts of words -/
def joinW (L : List Str) : Str := Txt.join " " L
theorem tl_bl : tl (" " : Str) = [32] := by decide +kernel
theorem joinW_tl (L : List Str) : tl (joinW L) = joinL [32] (L.map tl) := by
  unfold joinW
  rw [join_eq, tl_join, tl_bl]
theorem joinL_app (S : List Nat) : ∀ a b : List (List Nat), a ≠ [] → b ≠ [] → joinL S (a ++ b) = joinL S a ++ (S ++ joinL S b)
  | [], _, h, _ => absurd rfl h
  | [p], [], _, h => absurd rfl h
  | [p], q :: r, _, _ => rfl
  | p :: q :: r, b, _, hb => by
    show p ++ (S ++ joinL S ((q :: r) ++ b)) = (p ++ (S ++ joinL S (q :: r))) ++ (S ++ joinL S b)
    rw [joinL_app S (q :: r) b (by simp) hb]
    simp [List.append_assoc]
theorem joinW_app (a b : List Str) (ha : a ≠ []) (hb : b ≠ []) : joinW (a ++ b) = joinW a ++ " " ++ joinW b := ext_tl (by
  rw [tl_append, tl_append, joinW_tl, joinW_tl, joinW_tl, List.map_append, joinL_app _ _ _ (by simpa using ha) (by simpa using hb), tl_bl, List.append_assoc])
theorem joinW_one (x : Str) : joinW [x] = x := ext_tl (by
  rw [joinW_tl]
  rfl)
/-- words that are texts of words themselves -/
theorem joinW_flat : ∀ L : List (List Str), (∀ w ∈ L, w ≠ []) → joinW (L.map joinW) = joinW L.flatten
  | [], _ => rfl
  | [w], _ => by
    rw [List.map_cons, List.map_nil, joinW_one, List.flatten_cons, List.flatten_nil, List.append_nil]
  | w :: u :: r, h => by
    have ih := joinW_flat (u :: r) fun x hx => h x (List.mem_cons_of_mem _ hx)
    have e : (w :: u :: r).map joinW = [joinW w] ++ (u :: r).map joinW := rfl
    have hu := h u (by simp)
    have hf : (u :: r).flatten ≠ [] := by
      rw [List.flatten_cons]
      intro z
      exact hu (List.append_eq_nil_iff.mp z).1
    rw [e, joinW_app _ _ (by simp) (by simp), joinW_one, ih, List.flatten_cons (l := w), joinW_app _ _ (h w List.mem_cons_self) hf]
theorem joinL_len (S : List Nat) : ∀ L : List (List Nat), (joinL S L).length ≤ (L.map List.length).sum + L.length * S.length
  | [] => Nat.zero_le _
  | [p] => by
    show p.length ≤ _
    simp
  | p :: q :: r => by
    have ih := joinL_len S (q :: r)
    show (p ++ (S ++ joinL S (q :: r))).length ≤ _
    rw [List.length_append, List.length_append, List.map_cons, List.sum_cons, List.length_cons, Nat.add_mul]
    omega
theorem joinW_len (L : List Str) : (joinW L).length ≤ (L.map (·.length)).sum + L.length := by
  have h := joinL_len [32] (L.map tl)
  rw [← joinW_tl, List.map_map, List.length_map, List.length_singleton, Nat.mul_one, ← len_tl] at h
  refine Nat.le_trans h (Nat.le_of_eq ?_)
  first
  | rfl
  | (congr 2; exact List.map_congr_left fun x _ => (len_tl x).symm)
theorem split_j {L : List Str} (h0 : L ≠ []) (h : ∀ x ∈ L, 32 ∉ tl x) : Txt.split (joinW L) " " = L := split_join tl_bl (by decide +kernel) h0 h
theorem wordsOf_j {L : List Str} (h0 : L ≠ []) (h : ∀ x ∈ L, 32 ∉ tl x) : wordsOf (joinW L) = qj L := by
  unfold wordsOf
  rw [split_j h0 h]
theorem qj_ok {n : Nat} : ∀ {L : List Str}, (L.map (·.length)).sum + L.length ≤ n → ∀ x ∈ qj L, x.length ≤ n
  | [], _, x, hx => by cases hx
  | w :: r, h, x, hx => by
    unfold qj at hx
    by_cases e : startsQ w = true
    · rw [if_pos e] at hx
      rw [List.mem_singleton.mp hx]
      exact Nat.le_trans (joinW_len (w :: r)) h
    · rw [if_neg e] at hx
      rw [List.map_cons, List.sum_cons, List.length_cons] at h
      rcases List.mem_cons.mp hx with rfl | hx
      · omega
      · exact qj_ok (by omega) x hx
theorem wsOk {z : Str} (h : z.length ≤ 90000) : WsOk (wordsOf z) := fun x hx => by
  obtain ⟨a, b⟩ := split_b z
  exact qj_ok (by omega) x hx
theorem plain_bl {w : List Str} (h : ∀ x ∈ w, plainW x = true) : ∀ x ∈ w, 32 ∉ tl x := fun x hx => plain_nob (h x hx)
theorem plain_q {w : List Str} (h : ∀ x ∈ w, plainW x = true) : ∀ x ∈ w, startsQ x = false := fun x hx => plain_noq (h x hx)
theorem plain_len {w : List Str} (h : ∀ x ∈ w, plainW x = true) : (joinW w).length ≤ 13 * w.length := by
  have key : ∀ l : List Str, (∀ x ∈ l, plainW x = true) → (l.map (·.length)).sum ≤ 12 * l.length := by
    intro l
    induction l with
    | nil => intro _; exact Nat.le_refl _
    | cons a l ih =>
      intro hh
      have := ih fun x hx => hh x (List.mem_cons_of_mem _ hx)
      have := (plain_parts (hh a List.mem_cons_self)).1
      rw [List.map_cons, List.sum_cons, List.length_cons]
      omega
  have := key w h
  have := joinW_len w
  omega
theorem fm_ne {due : Bool} {lv : Nat} {d : PyData} {w : List Str} (h : Fm due lv d w) : w ≠ [] := fun e => by
  have := (fm_w lv h).2.1
  rw [e] at this
  exact absurd this (by decide)
theorem ref_ok {due : Bool} {lv : Nat} {d : PyData} {w : List Str} (h : Fm due lv d w) : RdOk (wordsOf (joinW w)) due d := by
  obtain ⟨p, _, _⟩ := fm_w lv h
  rw [wordsOf_j (fm_ne h) (plain_bl p), qj_id (plain_q p)]
  exact rd_ok h
theorem ref_more {due : Bool} {lv : Nat} {d : PyData} {w : List Str} (h : Fm due lv d w) {x : Str} (hx : 32 ∉ tl x) : RdErr (wordsOf (joinW w ++ " " ++ x)) due (w.length + 1) := by
  obtain ⟨p, _, _⟩ := fm_w lv h
  have e : joinW w ++ " " ++ x = joinW (w ++ [x]) := by rw [joinW_app _ _ (fm_ne h) (by simp), joinW_one]
  rw [e, wordsOf_j (by simp) (fun y hy => (List.mem_append.mp hy).elim (plain_bl p y) fun z => by rw [List.mem_singleton.mp z]; exact hx), qj_app (plain_q p)]
  obtain ⟨y, ey⟩ : ∃ y, qj [x] = [y] := by
    unfold qj
    by_cases c : startsQ x = true
    · rw [if_pos c]; exact ⟨_, rfl⟩
    · rw [if_neg c]; exact ⟨_, rfl⟩
  rw [ey]
  exact rd_more h
theorem ref_cut {due : Bool} {lv : Nat} {d : PyData} {w : List Str} (h : Fm due lv d w) : RdErr (wordsOf (joinW (w.take (w.length - 1)))) due w.length := by
  obtain ⟨p, l1, _⟩ := fm_w lv h
  have pt : ∀ x ∈ w.take (w.length - 1), plainW x = true := fun x hx => p x (List.mem_of_mem_take hx)
  by_cases n : w.length = 1
  · have e : wordsOf (joinW []) = ([""] : List Str) := by decide +kernel
    have c := cut_at (w := w) (j := 0) (r := ([""] : List Str)) (by omega) (fun x z => by cases z; exact empty_odd)
    rw [List.take_zero, List.nil_append] at c
    have r := rd_cut h c
    rw [n, Nat.sub_self, List.take_zero, e]
    exact r
  · have hne : w.take (w.length - 1) ≠ [] := fun z => by
      have := congrArg List.length z
      rw [List.length_take, List.length_nil] at this
      omega
    rw [wordsOf_j hne (plain_bl pt), qj_id (plain_q pt)]
    have c := cut_at (w := w) (j := w.length - 1) (r := []) (by omega) (fun x z => by cases z)
    rw [List.append_nil] at c
    have r := rd_cut h c
    rw [show w.length - 1 + 1 = w.length by omega] at r
    exact r
theorem ref_empty {due : Bool} {lv : Nat} {d : PyData} {w : List Str} (h : Fm due lv d w) {j : Nat} (hj : j ≤ w.length) : RdErr (wordsOf (joinW (w.take j ++ ([""] : List Str) ++ w.drop j))) due (j + 1) := by
  obtain ⟨p, l1, _⟩ := fm_w lv h
  have h1 : ∀ x ∈ w.take j ++ ([""] : List Str) ++ w.drop j, 32 ∉ tl x ∧ startsQ x = false := fun x hx => by
    rw [List.mem_append, List.mem_append, List.mem_singleton] at hx
    rcases hx with (hx | rfl) | hx
    · have := p x (List.mem_of_mem_take hx)
      exact ⟨plain_nob this, plain_noq this⟩
    · decide +kernel
    · have := p x (List.mem_of_mem_drop hx)
      exact ⟨plain_nob this, plain_noq this⟩
  rw [wordsOf_j (by simp) (fun x hx => (h1 x hx).1), qj_id (fun x hx => (h1 x hx).2), List.append_assoc]
  by_cases c : j < w.length
  · exact rd_cut h (cut_at c (fun x z => by cases z; exact empty_odd))
  · rw [List.take_of_length_le (by omega), show j = w.length by omega]
    exact rd_more h
def oddL : List Str := (["Zz", "!", "a'b", "\"x\"", "end", "say", "abcdefghijklm", "", "\t"] : List Str)
theorem oddL_ok : ∀ o ∈ oddL, 32 ∉ tl o ∧ (startsQ o = true ∨ (startsQ o = false ∧ o ∈ oddWs)) := by decide +kernel
theorem ref_odd {due : Bool} {lv : Nat} {d : PyData} {w : List Str} (h : Fm due lv d w) {j : Nat} (hj : j < w.length) {o : Str} (ho : o ∈ oddL) : RdErr (wordsOf (joinW (w.take j ++ [o] ++ w.drop (j + 1)))) due (j + 1) := by
  obtain ⟨p, l1, _⟩ := fm_w lv h
  obtain ⟨o1, o2⟩ := oddL_ok o ho
  have h1 : ∀ x ∈ w.take j ++ [o] ++ w.drop (j + 1), 32 ∉ tl x := fun x hx => by
    rw [List.mem_append, List.mem_append, List.mem_singleton] at hx
    rcases hx with (hx | rfl) | hx
    · exact plain_nob (p x (List.mem_of_mem_take hx))
    · exact o1
    · exact plain_nob (p x (List.mem_of_mem_drop hx))
  rw [wordsOf_j (by simp) h1, List.append_assoc]
  have pt : ∀ x ∈ w.take j, startsQ x = false := fun x hx => plain_noq (p x (List.mem_of_mem_take hx))
  rcases o2 with o2 | ⟨o2, o3⟩
  · obtain ⟨x, ex, ox⟩ := qj_quote (r := w.drop (j + 1)) pt o2
    rw [show [o] ++ w.drop (j + 1) = o :: w.drop (j + 1) from rfl, ex]
    exact rd_cut h (cut_at hj (fun y z => by cases z; exact ox))
  · rw [qj_id]
    · exact rd_cut h (cut_at hj (fun y z => by cases z; exact oddWs_ok o3))
    · intro x hx
      rw [List.mem_append, List.mem_append, List.mem_singleton] at hx
      rcases hx with hx | rfl | hx
      · exact pt x hx
      · exact o2
      · exact plain_noq (p x (List.mem_of_mem_drop hx))
theorem ref_head {due : Bool} {lv : Nat} {d : PyData} {w : List Str} (h : Fm due lv d w) {g : Str} (hg : g ∈ (["is", "get", "at"] : List Str)) : RdErr (wordsOf (g ++ " " ++ joinW w)) due 1 := by
  obtain ⟨p, _, _⟩ := fm_w lv h
  have e : g ++ " " ++ joinW w = joinW ([g] ++ w) := by rw [joinW_app _ _ (by simp) (fm_ne h), joinW_one]
  have g1 : 32 ∉ tl g ∧ startsQ g = false ∧ g ∈ startBad := (by decide +kernel : ∀ g ∈ (["is", "get", "at"] : List Str), 32 ∉ tl g ∧ startsQ g = false ∧ g ∈ startBad) g hg
  rw [e, wordsOf_j (L := [g] ++ w) (by simp) (fun x hx => (List.mem_cons.mp hx).elim (fun z => by rw [z]; exact g1.1) (plain_bl p x)), qj_id (l := [g] ++ w) (fun x hx => (List.mem_cons.mp hx).elim (fun z => by rw [z]; exact g1.2.1) (plain_q p x))]
  exact .inl ⟨(beg_of (w := g) rfl).trans (start_bad g1.2.2 due), rfl⟩
def startL : List Str := (["00", "01", "1000", "-1", "+1", "1a", "A", "30000", "99999999"] : List Str)
theorem ref_start {due : Bool} {o : Str} (ho : o ∈ startL) : RdErr (wordsOf o) due 1 := by
  have g1 : wordsOf o = [o] ∧ o ∈ startBad := (by decide +kernel : ∀ g ∈ startL, wordsOf g = [g] ∧ g ∈ startBad) o ho
  rw [g1.1]
  exact .inl ⟨(beg_of (w := o) rfl).trans (start_bad g1.2 due), rfl⟩
/-! ### forms that are drawn -/
theorem Pts.app {lv : Nat} : ∀ {ks : List Str} {ds : List PyData} {w : List Str}, Pts lv ks ds w → ∀ {ks2 : List Str} {ds2 : List PyData} {w2 : List Str}, Pts lv ks2 ds2 w2 → Pts lv (ks ++ ks2) (ds ++ ds2) (w ++ w2)
  | [], _, _, h, _, _, _, r => by
    cases h
    exact r
  | k :: ks, _, _, h, _, _, _, r => by
    cases h with
    | sm f2 np ht hr => exact .sm f2 np ht (Pts.app hr r)
    | fm f2 hf hr =>
      rw [List.append_assoc]
      exact .fm f2 hf (Pts.app hr r)
theorem kind_facts : ∀ due ∈ [true, false], ((formsT due).all fun p => decide (p.1 = "call") || (decide ((kindR due).find? (fun r => decide (r.1 = p.1)) = some (p.1, ms p.2)) && p.2.all fun k => isF2 k || decide (k ∈ smallK))) = true := by decide +kernel
theorem kind_fact {due : Bool} {h : Str} {ks : List Str} (m : (h, ks) ∈ formsT due) (hc : h ≠ "call") : (kindR due).find? (fun r => decide (r.1 = h)) = some (h, ms ks) ∧ ∀ k ∈ ks, isF2 k = true ∨ k ∈ smallK := by
  have := List.all_eq_true.mp (kind_facts due (by cases due <;> decide)) _ m
  simp only [Bool.or_eq_true, Bool.and_eq_true, decide_eq_true_eq, List.all_eq_true] at this
  exact this.resolve_left hc
theorem head_cases : ∀ due ∈ [true, false], ((kindR due).all fun r => (formsT due).any fun p => decide (p.1 = r.1)) = true := by decide +kernel
theorem smallK_f2 : ∀ k ∈ smallK, isF2 k = false ∧ k ≠ "params" := by decide +kernel
def leafH (due : Bool) : List Str := if due then (["is", "get", "doing", "random", "light", "pass"] : List Str) else (["nothing", "at", "at"] : List Str)
theorem leaf_cases : ∀ due ∈ [true, false], ((leafH due).all fun h => (formsT due).any fun p => decide (p.1 = h) && (decide (h ≠ "call") && p.2.all fun k => !isF2 k)) = true := by decide +kernel
/-- a head that may be drawn at level lv -/
def HdOk (due : Bool) (lv : Nat) (h : Str) : Prop := ∃ ks, (h, ks) ∈ formsT due ∧ (2 ≤ lv ∨ (h ≠ "call" ∧ ∀ k ∈ ks, isF2 k = false))
theorem leaf_ok {due : Bool} {lv : Nat} {h : Str} (m : h ∈ leafH due) : HdOk due lv h := by
  have := List.all_eq_true.mp (leaf_cases due (by cases due <;> decide)) h m
  obtain ⟨⟨h2, ks⟩, hm, e⟩ := List.any_eq_true.mp this
  simp only [Bool.and_eq_true, decide_eq_true_eq, List.all_eq_true, Bool.not_eq_true'] at e
  obtain ⟨rfl, hc, hk⟩ := e
  exact ⟨ks, hm, .inr ⟨hc, hk⟩⟩
theorem all_ok {due : Bool} {lv : Nat} {h : Str} (hl : 2 ≤ lv) (m : h ∈ (kindR due).map (·.1)) : HdOk due lv h := by
  obtain ⟨r, hr, rfl⟩ := List.mem_map.mp m
  have := List.all_eq_true.mp (head_cases due (by cases due <;> decide)) r hr
  obtain ⟨⟨h2, ks⟩, hm, e⟩ := List.any_eq_true.mp this
  have e2 : h2 = r.1 := of_decide_eq_true e
  subst e2
  exact ⟨ks, hm, .inl hl⟩
theorem takeS_rng {k w : Str} {d : PyData} {lo hi : Nat} (e : rngK k = some (lo, hi)) (h : takeS k w = some d) : ∃ i : Nat, lo ≤ i ∧ i ≤ hi ∧ d = .int (i : Nat) := by
  unfold takeS at h
  rw [e] at h
  dsimp only at h
  by_cases e2 : isDec w = true ∧ lo ≤ valD w ∧ valD w ≤ hi
  · rw [if_pos e2] at h
    cases h
    exact ⟨_, e2.2.1, e2.2.2, rfl⟩
  · rw [if_neg e2] at h
    cases h
/-- a form of one small part -/
theorem ptsOne {l : Nat} {k : Str} {ds : List PyData} {w : List Str} (f2 : isF2 k = false) (p : Pts l [k] ds w) : ∃ x d, takeS k x = some d ∧ ds = [d] := by
  cases p with
  | sm _ np ht hr =>
    cases hr
    exact ⟨_, _, ht, rfl⟩
  | fm g _ _ => rw [f2] at g; cases g
theorem fm_make {due : Bool} {l : Nat} {h : Str} {ks : List Str} {ds : List PyData} {w : List Str} (m : (h, ks) ∈ formsT due) (hc : h ≠ "call") (p : Pts l ks ds w) : ∃ w', Fm due (l + 1) (.tuple (.str h :: ds)) w' := by
  have hk := (head_ok m).2.1
  by_cases h1 : h = "is"
  · subst h1
    cases due with
    | false => exact absurd hk (by rw [show kindsOf false "is" = none by decide +kernel]; intro z; cases z)
    | true =>
      have e : ks = (["integer"] : List Str) := Option.some.inj (hk.symm.trans (by decide +kernel))
      subst e
      obtain ⟨x, d, ht, rfl⟩ := ptsOne (by decide +kernel) p
      obtain ⟨i, _, hi, rfl⟩ := takeS_rng (lo := 0) (hi := 999) (by decide +kernel) ht
      exact ⟨_, .is hi⟩
  by_cases h2 : h = "get"
  · subst h2
    cases due with
    | false => exact absurd hk (by rw [show kindsOf false "get" = none by decide +kernel]; intro z; cases z)
    | true =>
      have e : ks = (["reading"] : List Str) := Option.some.inj (hk.symm.trans (by decide +kernel))
      subst e
      obtain ⟨x, d, ht, rfl⟩ := ptsOne (by decide +kernel) p
      have t2 := takeS_leaf true x
      rw [show leafK true = "reading" from rfl, ht] at t2
      by_cases o : okS "reading" x = true
      · rw [if_pos o] at t2
        cases t2
        exact ⟨_, .get o⟩
      · rw [if_neg o] at t2
        cases t2
  by_cases h3 : h = "at"
  · subst h3
    cases due with
    | true => exact absurd hk (by rw [show kindsOf true "at" = none by decide +kernel]; intro z; cases z)
    | false =>
      have e : ks = (["pointed"] : List Str) := Option.some.inj (hk.symm.trans (by decide +kernel))
      subst e
      obtain ⟨x, d, ht, rfl⟩ := ptsOne (by decide +kernel) p
      have t2 := takeS_leaf false x
      rw [show leafK false = "pointed" from rfl, ht] at t2
      by_cases o : okS "pointed" x = true
      · rw [if_pos o] at t2
        cases t2
        exact ⟨_, .at o⟩
      · rw [if_neg o] at t2
        cases t2
  exact ⟨_, .nd m h1 h2 h3 hc p⟩
def spFormN : Nat → Sp
  | 0 => fun _ _ _ _ => False
  | n + 1 => fun vs H Q _ => ∃ (b : Addr) (due : Bool) (lv : Nat), vs = [.ref b, .str (if due then "N" else "X"), .int (lv : Nat)] ∧ BagR H b ∧ 1 ≤ lv ∧ lv ≤ n + 1 ∧ ∀ v d w H', Kp b H H' → Dv H' v d → Fm due lv d w → Q v H'
theorem call_form {n l : Nat} {due : Bool} {b : Addr} {H : Hp} {Q : VK} {E : XK} {i : Int} (hi : i = (l : Nat)) (h1 : 1 ≤ l) (h2 : l ≤ n) (B : BagR H b) (q : ∀ v d w H', Kp b H H' → Dv H' v d → Fm due l d w → Q v H') : spFormN n [.ref b, .str (if due then "N" else "X"), .int i] H Q E := by
  subst hi
  cases n with
  | zero => omega
  | succ n => exact ⟨b, due, l, rfl, B, h1, h2, q⟩
theorem DvAll.kp {b : Addr} {H H' : Hp} {v : List V} {d : List PyData} (h : DvAll H v d) (B : Bag H b) (k : Kp b H H') : DvAll H' v d := DvAll.map (fun a xs e => k.lst B e) (fun a xs e => k.tup B e) d v h
theorem pts_snoc {l : Nat} {ks : List Str} {ds : List PyData} {ws : List Str} {u : Str} {g : Bool} {d : PyData} {w : List Str} (p : Pts l ks ds ws) (e : u = if g = true then ("N" : Str) else ("X" : Str)) (h : Fm g l d w) : Pts l (ks ++ [u]) (ds ++ [d]) (ws ++ w) := by
  refine p.app ?_
  have h2 : Fm (decide (u = "N")) l d w := by
    rw [show decide (u = "N") = g by subst e; cases g <;> decide]
    exact h
  have := Pts.fm (k := u) (by subst e; cases g <;> decide) h2 .nil
  rw [List.append_nil] at this
  exact this
theorem room_kp {H : Hp} {b c : Addr} {ns : List Int} {a r m n z v : Int} (hb : H b = some (.dK (bagKV c a r m n ++ roomKV (some z)))) (hc : H c = some (.lst (ns.map V.int))) (ha : 0 ≤ a) : Kp b H (upd H b (.dK (bagKV c a r m n ++ roomKV (some v)))) := by
  have hcb : c ≠ b := ne_of hc hb (by intro z; cases z)
  have hu : (upd H b (.dK (bagKV c a r m n ++ roomKV (some v)))) c = some (.lst (ns.map V.int)) := by rw [upd_ne hcb]; exact hc
  refine ⟨fun p o hp e => by rw [upd_ne hp]; exact e, ⟨c, true, ns, a, r, m, n, some v, upd_same, rfl, hu, ha⟩, fun c' t' ⟨ns', x', y', z', u', ro', e1, e2, e3, e4⟩ => ?_⟩
  rw [hb] at e1
  have e0 : bagKV c a r m n ++ roomKV (some z) = bagKV c' x' y' z' u' ++ roomKV ro' := by
    simp only [Option.some.injEq, HO.dK.injEq] at e1
    exact e1
  have ec : c = c' := by
    simp only [bagKV, List.cons_append, List.cons.injEq, Prod.mk.injEq, V.ref.injEq, true_and] at e0
    exact e0.1
  have er : roomKV (some z) = roomKV ro' := by
    simp only [bagKV, List.cons_append, List.cons.injEq, List.nil_append] at e0
    exact e0.2.2.2.2.2
  have et : true = t' := by
    rw [← e2]
    cases ro' <;> first | rfl | cases er
  subst ec et
  exact ⟨ns, a, r, m, n, some v, upd_same, rfl, hu, ha⟩
def ltr7 : List Nat := ltrN ++ ltrX
theorem perm_map {α β : Type} {f : α → β} {l l2 : List β} (h : l.Perm l2) : ∀ m : List α, l2 = m.map f → ∃ m2 : List α, m2.Perm m ∧ l = m2.map f := by
  induction h with
  | nil => exact fun m e => ⟨m, .refl _, e⟩
  | cons x h ih =>
    intro m e
    cases m with
    | nil => cases e
    | cons a m =>
      rw [List.map_cons] at e
      injection e with e1 e2
      obtain ⟨m', p, e3⟩ := ih m e2
      exact ⟨a :: m', p.cons a, by rw [List.map_cons, e1, e3]⟩
  | swap x y l =>
    intro m e
    match m, e with
    | a :: c :: m, e =>
      rw [List.map_cons, List.map_cons] at e
      injection e with e1 e2
      injection e2 with e2 e3
      exact ⟨c :: a :: m, List.Perm.swap a c m, by rw [List.map_cons, List.map_cons, e1, e2, e3]⟩
  | trans h1 h2 ih1 ih2 =>
    intro m e
    obtain ⟨m2, p2, e2⟩ := ih2 m e
    obtain ⟨m1, p1, e1⟩ := ih1 m2 e2
    exact ⟨m1, p1.trans p2, e1⟩
def spFormTextN : Nat → Sp
  | 0 => fun _ _ _ _ => False
  | n + 1 => fun vs H Q _ => ∃ (v : V) (d : PyData) (due : Bool) (lv : Nat) (w : List Str), vs = [v] ∧ Dv H v d ∧ Fm due lv d w ∧ lv ≤ n ∧ n ≤ 6 ∧ ∀ H', Same H H' → Q (.str (joinW w)) H'
theorem call_text {n lv : Nat} {v : V} {d : PyData} {due : Bool} {w : List Str} {H : Hp} {Q : VK} {E : XK} (h1 : lv < n) (h7 : n ≤ 7) (dv : Dv H v d) (hf : Fm due lv d w) (q : ∀ H', Same H H' → Q (.str (joinW w)) H') : spFormTextN n [v] H Q E := by
  cases n with
  | zero => omega
  | succ n => exact ⟨v, d, due, lv, w, rfl, dv, hf, by omega, by omega, q⟩
theorem fm_tup {due : Bool} {l : Nat} {d : PyData} {w : List Str} (h : Fm due l d w) : ∃ ds, d = .tuple ds := by cases h <;> exact ⟨_, rfl⟩
theorem pts_at {l : Nat} {ks : List Str} {ds : List PyData} {wr : List Str} {i : Nat} {d : PyData} (p : Pts l (ks.drop i) (ds.drop i) wr) (hd : ds[i]? = some d) : ∃ k w wr2, ks[i]? = some k ∧ wr = w ++ wr2 ∧ w ≠ [] ∧ Pts l (ks.drop (i + 1)) (ds.drop (i + 1)) wr2 ∧ (isF2 k = true → Fm (decide (k = "N")) l d w) ∧ (isF2 k = false → (∃ j : Nat, j ≤ 999 ∧ d = .int (j : Nat) ∧ w = [strN j]) ∨ ∃ z, d = .str z ∧ w = [z]) := by
  have hi := (List.getElem?_eq_some_iff.mp hd).1
  have e := (pts_s (fm_s l) p).2
  rw [List.length_drop, List.length_drop] at e
  have hk : i < ks.length := by omega
  have hdd : ds[i] = d := (List.getElem?_eq_some_iff.mp hd).2
  rw [List.drop_eq_getElem_cons hi, List.drop_eq_getElem_cons hk, hdd] at p
  cases p with
  | sm f2 np ht hr => exact ⟨_, [_], _, List.getElem?_eq_getElem hk, rfl, by simp, hr, (fun z => by rw [f2] at z; cases z), fun _ => (takeS_word np ht).imp (fun ⟨j, a, b, c⟩ => ⟨j, a, b, by rw [c]⟩) (fun e => ⟨_, e, rfl⟩)⟩
  | fm f2 hf hr => exact ⟨_, _, _, List.getElem?_eq_getElem hk, rfl, fm_ne hf, hr, fun _ => hf, (fun z => by rw [f2] at z; cases z)⟩
/-- the texts of the parts that are done -/
def TxOk (w : List Str) (l : Nat) (ks : List Str) (ds : List PyData) (i n0 : Nat) (ts : List Str) : Prop := ∃ (wss : List (List Str)) (wr : List Str), ts = wss.map joinW ∧ (∀ u ∈ wss, u ≠ []) ∧ wss.flatten ++ wr = w ∧ Pts l (ks.drop i) (ds.drop i) wr ∧ wss.length = n0 + i
theorem tx_step {w : List Str} {l : Nat} {ks : List Str} {ds : List PyData} {i n0 : Nat} {ts : List Str} {d : PyData} (h : TxOk w l ks ds i n0 ts) (hd : ds[i]? = some d) : ∃ k u, TxOk w l ks ds (i + 1) n0 (ts ++ [joinW u]) ∧ ks[i]? = some k ∧ (isF2 k = true → Fm (decide (k = "N")) l d u) ∧ (isF2 k = false → (∃ j : Nat, j ≤ 999 ∧ d = .int (j : Nat) ∧ u = [strN j]) ∨ ∃ z, d = .str z ∧ u = [z]) := by
  obtain ⟨wss, wr, rfl, hn, hf, p, hl⟩ := h
  obtain ⟨k, u, wr2, hk, rfl, un, p2, h1, h2⟩ := pts_at p hd
  refine ⟨k, u, ⟨wss ++ [u], wr2, by rw [List.map_append]; rfl, fun x hx => ?_, ?_, p2, ?_⟩, hk, h1, h2⟩
  · rcases List.mem_append.mp hx with hx | hx
    · exact hn x hx
    · rw [List.mem_singleton.mp hx]
      exact un
  · rw [List.flatten_append, List.flatten_cons, List.flatten_nil, List.append_nil, List.append_assoc]
    exact hf
  · rw [List.length_append, hl]
    rfl
theorem tx_end {w : List Str} {l : Nat} {ks : List Str} {ds : List PyData} {i n0 : Nat} {ts : List Str} (h : TxOk w l ks ds i n0 ts) (hi : ds.length ≤ i) : ∃ wss : List (List Str), ts = wss.map joinW ∧ (∀ u ∈ wss, u ≠ []) ∧ wss.flatten = w := by
  obtain ⟨wss, wr, rfl, hn, hf, p, hl⟩ := h
  have e := (pts_s (fm_s l) p).2
  rw [List.length_drop, List.length_drop] at e
  rw [List.drop_of_length_le hi, List.drop_of_length_le (by omega)] at p
  cases p
  rw [List.append_nil] at hf
  exact ⟨wss, rfl, hn, hf⟩
theorem tx_size {wss : List (List Str)} (h : ∀ x ∈ wss.flatten, plainW x = true) (hn : ∀ u ∈ wss, u ≠ []) : ((wss.map joinW).map (·.length)).sum ≤ 13 * wss.flatten.length ∧ wss.length ≤ wss.flatten.length := by
  induction wss with
  | nil => exact ⟨Nat.le_refl _, Nat.le_refl _⟩
  | cons u wss ih =>
    rw [List.flatten_cons] at h
    obtain ⟨a, b⟩ := ih (fun x hx => h x (List.mem_append_right _ hx)) fun x hx => hn x (List.mem_cons_of_mem _ hx)
    have c := plain_len fun x hx => h x (List.mem_append_left _ hx)
    have d : 1 ≤ u.length := by
      cases u with
      | nil => exact absurd rfl (hn [] List.mem_cons_self)
      | cons x r => simp
    rw [List.map_cons, List.map_cons, List.sum_cons, List.flatten_cons, List.length_append, List.length_cons]
    omega
theorem tx_join {wss : List (List Str)} (h : ∀ x ∈ wss.flatten, plainW x = true) (hn : ∀ u ∈ wss, u ≠ []) (hl : wss.flatten.length ≤ 2000) : ((wss.map joinW).map (·.length)).sum + (wss.map joinW).length * (" " : Str).length ≤ 16777216 ∧ Txt.join " " (wss.map joinW) = joinW wss.flatten := by
  obtain ⟨a, b⟩ := tx_size h hn
  refine ⟨?_, joinW_flat wss hn⟩
  rw [show (" " : Str).length = 1 by decide +kernel, List.length_map]
  omega
/-! ### reading -/
def dueW (due : Bool) : Str := if due then "number" else "thing"
def spReadL : Sp := fun vs H Q _ => ∃ (z : Str) (due : Bool), vs = [.str z, .str (dueW due)] ∧ z.length ≤ 90000 ∧ ((∃ d, RdOk (wordsOf z) due d ∧ Sm d 20 1000000 ∧ ∀ r H', Same H H' → H r = none → H' r = some (.lst [.str "read", .str d.shown]) → Q (.ref r) H') ∨ ∃ p : Nat, RdErr (wordsOf z) due p ∧ p ≤ 1000000 ∧ ∀ r H', Same H H' → H r = none → H' r = some (.lst [.str "bad", .str (badD p).shown]) → Q (.ref r) H')
def spOtherL : Sp := fun vs H Q _ => ∃ (v : V) (d : PyData) (due : Bool) (lv : Nat) (w : List Str), vs = [v] ∧ Dv H v d ∧ Fm due lv d w ∧ ((∃ z, w = [z] ∧ z ∉ resW ∧ d = .tuple [.str (if due then "get" else "at"), .str z] ∧ ∀ r H', Same H H' → H r = none → H' r = some (.lst [.str "read", .str (PyData.tuple [.str (if due then "at" else "get"), .str z]).shown]) → Q (.ref r) H') ∨
  (((∃ z, d = .tuple [.str (if due then "get" else "at"), .str z] ∧ z ∈ resW) ∨ ∃ h ds, d = .tuple (.str h :: ds) ∧ h ≠ "get" ∧ h ≠ "at") ∧ ∀ r H', Same H H' → H r = none → H' r = some (.lst [.str "bad", .str (badD 1).shown]) → Q (.ref r) H'))
def spRefL : Sp := fun vs H Q _ => ∃ (b : Addr) (due : Bool) (lv : Nat) (d : PyData) (w : List Str), vs = [.ref b, .str (joinW w), .str (dueW due)] ∧ Bag H b ∧ Fm due lv d w ∧ lv ≤ 6 ∧ ∀ H', Kp b H H' → Q (.bl true) H'
theorem bad_fl {p : Nat} (hp : p ≤ 1000000) : ([.str "bad", .str (badD p).shown] : List V).all isF = true := by
  have := (sm_bad hp).ok
  simp only [List.all_cons, List.all_nil, isF, this, Bool.and_true]
  decide +kernel
theorem ask_bad {z : Str} {due : Bool} {p : Nat} {i : Int} {H : Hp} {KT KF : Hp → Prop} (hi : i = (p : Nat)) (hz : z.length ≤ 90000) (hp : p ≤ 1000000) (re : RdErr (wordsOf z) due p) (k : ∀ H2, Same H H2 → KT H2) : spReadL [.str z, .str (dueW due)] H (fun x H1 => spBadL [.int i] H1 (fun y H2 => ∃ p, x = .ref p ∧ ∃ x, y = .ref x ∧ ∃ x_1, H2 p = some (.lst x_1) ∧ ∃ x_2, H2 x = some (.lst x_2) ∧ x_1.all isF = true ∧ x_2.all isF = true ∧ if x_1 = x_2 then KT H2 else KF H2) E0) E0 :=
  ⟨z, due, rfl, hz, .inr ⟨p, re, hp, fun r H1 s1 nr hr => ⟨p, by rw [hi], hp, fun r2 H2 s2 nr2 hr2 => ⟨r, rfl, r2, rfl, _, s2 _ _ hr, _, hr2, bad_fl hp, bad_fl hp, by rw [if_pos rfl]; exact k H2 (s1.trans s2)⟩⟩⟩⟩
theorem ask_badE {z : Str} {due : Bool} {p : Nat} {i : Int} {H : Hp} {Q : VK} (hi : i = (p : Nat)) (hz : z.length ≤ 90000) (hp : p ≤ 1000000) (re : RdErr (wordsOf z) due p) (k : ∀ H2, Same H H2 → Q (.bl true) H2) : spReadL [.str z, .str (dueW due)] H (fun x H1 => spBadL [.int i] H1 (fun y H2 => ∃ p, x = .ref p ∧ ∃ x, y = .ref x ∧ ∃ x_1, H2 p = some (.lst x_1) ∧ ∃ x_2, H2 x = some (.lst x_2) ∧ x_1.all isF = true ∧ x_2.all isF = true ∧ Q (.bl (decide (x_1 = x_2))) H2) E0) E0 :=
  ⟨z, due, rfl, hz, .inr ⟨p, re, hp, fun r H1 s1 nr hr => ⟨p, by rw [hi], hp, fun r2 H2 s2 nr2 hr2 => ⟨r, rfl, r2, rfl, _, s2 _ _ hr, _, hr2, bad_fl hp, bad_fl hp, by rw [decide_eq_true rfl]; exact k H2 (s1.trans s2)⟩⟩⟩⟩
def headsB : List Str := (["is ", "get ", "at "] : List Str)
theorem headsB_ok : ∀ u ∈ headsB, ∃ g, g ∈ (["is", "get", "at"] : List Str) ∧ u = g ++ " " ∧ (g ++ " ").length ≤ 4 := by
  intro u hu
  simp only [headsB, List.mem_cons, List.not_mem_nil, or_false] at hu
  rcases hu with rfl | rfl | rfl
  · exact ⟨"is", by decide, by decide +kernel, by decide +kernel⟩
  · exact ⟨"get", by decide, by decide +kernel, by decide +kernel⟩
  · exact ⟨"at", by decide, by decide +kernel, by decide +kernel⟩
theorem start_len : ∀ o ∈ startL, o.length ≤ 90000 := by decide +kernel
def mores : List Str := (["x", "0", "zz", "end", "", "nothing", "\"a\""] : List Str)
theorem fits13 {L : List Str} (h : ∀ x ∈ L, x.length ≤ 13) (hl : L.length ≤ 2000) : (L.map (·.length)).sum + L.length * (" " : Str).length ≤ 16777216 ∧ (joinW L).length ≤ 90000 := by
  have a := sum_le h
  have b := joinW_len L
  rw [show (" " : Str).length = 1 by decide +kernel]
  omega
theorem plain13 {w : List Str} (h : ∀ x ∈ w, plainW x = true) : ∀ x ∈ w, x.length ≤ 13 := fun x hx => Nat.le_trans (plain_parts (h x hx)).1.2 (by decide)
theorem cut_hi (w : List Str) (j : Nat) : cutV (ms w) none (some (j : Int)) = (w.take j).map V.str := by
  rw [cutV_hi]
  unfold ms
  rw [List.map_take]
theorem cut_lo (w : List Str) (j : Nat) : cutV (ms w) (some (j : Int)) none = (w.drop j).map V.str := by
  rw [cutV_lo]
  unfold ms
  rw [List.map_drop]
theorem odd13 : ∀ o ∈ oddL, o.length ≤ 13 := by decide +kernel
theorem more_ok : ∀ m ∈ mores, m.length ≤ 7 ∧ 32 ∉ tl m := by decide +kernel
theorem len_app (x y : Str) : (x ++ y).length = x.length + y.length := by rw [len_tl, tl_append, List.length_append, ← len_tl, ← len_tl]
def spLaw (K : PySem.W.Frag) : Sp := fun vs H Q _ => ∃ (a : Addr) (ns : List Int), vs = [.ref a] ∧ SqL K H a (ns.map V.int) ∧ ns.length ≤ 1000 ∧ ∀ H', Q (.bl true) H'
theorem joinL_mem {S : List Nat} {c : Nat} : ∀ {L : List (List Nat)}, c ∈ joinL S L → c ∈ S ∨ ∃ p ∈ L, c ∈ p
  | [], h => by cases h
  | [p], h => .inr ⟨p, List.mem_cons_self, h⟩
  | p :: q :: r, h => by
    have h2 : c ∈ p ++ (S ++ joinL S (q :: r)) := h
    rcases List.mem_append.mp h2 with h2 | h2
    · exact .inr ⟨p, List.mem_cons_self, h2⟩
    · rcases List.mem_append.mp h2 with h2 | h2
      · exact .inl h2
      · rcases joinL_mem h2 with h3 | ⟨u, hu, hc⟩
        · exact .inl h3
        · exact .inr ⟨u, List.mem_cons_of_mem _ hu, hc⟩
theorem sm_text {w : List Str} (h : ∀ x ∈ w, plainW x = true) (hl : w.length ≤ 1821) : Sm (.str (joinW w)) 0 1000000 := by
  have l13 := plain_len h
  refine (sm_str fun c hc => ?_).mono (Nat.le_refl _) (by omega)
  have hc2 : c ∈ tl (joinW w) := hc
  rw [joinW_tl] at hc2
  rcases joinL_mem hc2 with h1 | ⟨p, hp, h1⟩
  · rw [List.mem_singleton.mp h1]
    decide
  · obtain ⟨x, hx, rfl⟩ := List.mem_map.mp hp
    have := (plain_parts (h x hx)).2 c h1
    omega
theorem sB_mono {a b : Nat} (h : a ≤ b) : sB a ≤ sB b := by
  induction h with
  | refl => exact Nat.le_refl _
  | @step m _ ih => exact Nat.le_trans ih (by show sB m ≤ 3 * sB m + 500; omega)
theorem fm_sm {due : Bool} {lv : Nat} {d : PyData} {w : List Str} (h : Fm due lv d w) (hl : lv ≤ 6) : Sm d 20 1000000 := (fm_s lv h).mono (by omega) (Nat.le_trans (sB_mono hl) (by decide +kernel))
theorem oth_ok {due : Bool} {z hd : Str} (hz : plainW z = true) (hb : begW due z = some ⟨hd, [], [.str z]⟩) (hc : hd ≠ "call") : RdOk (wordsOf (joinW [z])) due (.tuple [.str hd, .str z]) := by
  have p : ∀ x ∈ [z], plainW x = true := fun x hx => by rw [List.mem_singleton.mp hx]; exact hz
  rw [wordsOf_j (by simp) (plain_bl p), qj_id (plain_q p)]
  refine ⟨_, 1, (beg_of (w := z) rfl).trans hb, (go_done (n := 0) (show stp [z] [⟨hd, [], [.str z]⟩] 1 = .done (Hf.whole ⟨hd, [], [.str z]⟩) 1 from rfl)).trans ?_⟩
  unfold Hf.whole
  rw [if_neg hc]
  rfl
theorem oth_err {due : Bool} {a : Str} {v : List Str} (p : ∀ x ∈ a :: v, plainW x = true) (hb : begW due a = none) : RdErr (wordsOf (joinW (a :: v))) due 1 := by
  rw [wordsOf_j (by simp) (plain_bl p), qj_id (plain_q p)]
  exact .inl ⟨(beg_of (w := a) rfl).trans hb, rfl⟩
theorem read_fl {d : PyData} {m k : Nat} (h : Sm d m k) : ([.str "read", .str d.shown] : List V).all isF = true := by
  have := h.ok
  simp only [List.all_cons, List.all_nil, isF, this, Bool.and_true]
  decide +kernel
theorem disp2 {σ : L2.St} {H : Hp} {Q : VK} (a b : Str) (x y : V) (ne : a ≠ b) (q : ∀ p H', Same H H' → H' p = some (.dK [(.inr a, x), (.inr b, y)]) → Q (.ref p) H') : tDisp [(tC (.str a), tC x), (tC (.str b), tC y)] σ H Q := by
  intro p np
  refine (show (upd H p (.dK [])) p = some (.dK []) ∧ ∃ kvs : List (Key × V), [((.str a : V), x), (.str b, y)] = kvs.map (fun kv => (kV kv.1, kv.2)) ∧ kvs.length ≤ 15 ∧ Q (.ref p) (upd (upd H p (.dK [])) p (.dK (mergeK [] kvs))) from ⟨upd_same, [(.inr a, x), (.inr b, y)], rfl, show 2 ≤ 15 by decide, ?_⟩)
  rw [mergeK_nd _ _ (by simp [ne]), List.nil_append, upd_upd]
  exact q p _ (same_new np) upd_same
theorem dueN {due : Bool} {x y : Str} : valV ([(.inr "N", .str x), (.inr "X", .str y)] : List (Key × V)) (.inr (if due = true then ("N" : Str) else "X")) = some (.str (if due then x else y)) := by cases due <;> rfl
theorem dv_strs {H : Hp} : ∀ l : List Str, DvAll H (l.map V.str) (l.map PyData.str)
  | [] => .nil
  | x :: l => .cons (.str x) (dv_strs l)
theorem sm_res : Sm (.tuple (resW.map PyData.str)) 1 20000 := by
  have h := sm_tuple (ds := resW.map PyData.str) (m := 0) (k := 130) fun d hd => by
    obtain ⟨x, hx, rfl⟩ := List.mem_map.mp hd
    exact sm_plain (List.all_eq_true.mp all_plain x (List.mem_append.mpr (.inl hx)))
  refine h.mono (Nat.le_refl _) ?_
  rw [List.length_map, show resW.length = 91 by decide +kernel]
  decide
def spX : Sp := fun _ _ _ _ => False
def d_f_LineWords_MU_initU : He.DefD := ⟨("LineWords", some "__init__"), "__init__", "LineWords.__init__", defArgs s_LineWords_MU_initU, defBody s_LineWords_MU_initU, defScope s_LineWords_MU_initU, [], []⟩
def d_f_LineWords_M_seen : He.DefD := ⟨("LineWords", some "seen"), "seen", "LineWords.seen", defArgs s_LineWords_M_seen, defBody s_LineWords_M_seen, defScope s_LineWords_M_seen, [], []⟩
def d_f_LineWords_M_take : He.DefD := ⟨("LineWords", some "take"), "take", "LineWords.take", defArgs s_LineWords_M_take, defBody s_LineWords_M_take, defScope s_LineWords_M_take, [], []⟩
def d_f_LineWords_M_shut : He.DefD := ⟨("LineWords", some "shut"), "shut", "LineWords.shut", defArgs s_LineWords_M_shut, defBody s_LineWords_M_shut, defScope s_LineWords_M_shut, [], []⟩
def d_f_LineWords_M_take_integer : He.DefD := ⟨("LineWords", some "take_integer"), "take_integer", "LineWords.take_integer", defArgs s_LineWords_M_take_integer, defBody s_LineWords_M_take_integer, defScope s_LineWords_M_take_integer, [], []⟩
def d_f_LineWords_M_take_params : He.DefD := ⟨("LineWords", some "take_params"), "take_params", "LineWords.take_params", defArgs s_LineWords_M_take_params, defBody s_LineWords_M_take_params, defScope s_LineWords_M_take_params, [], []⟩
def d_f_LineWords_M_take_small : He.DefD := ⟨("LineWords", some "take_small"), "take_small", "LineWords.take_small", defArgs s_LineWords_M_take_small, defBody s_LineWords_M_take_small, defScope s_LineWords_M_take_small, [], []⟩
def d_f_HalfForm_MU_initU : He.DefD := ⟨("HalfForm", some "__init__"), "__init__", "HalfForm.__init__", defArgs s_HalfForm_MU_initU, defBody s_HalfForm_MU_initU, defScope s_HalfForm_MU_initU, [], []⟩
def d_f_HalfForm_M_whole : He.DefD := ⟨("HalfForm", some "whole"), "whole", "HalfForm.whole", defArgs s_HalfForm_M_whole, defBody s_HalfForm_M_whole, defScope s_HalfForm_M_whole, [], []⟩
def d_f_kinds_of : He.DefD := ⟨("kinds_of", none), "kinds_of", "kinds_of", defArgs s_kinds_of, defBody s_kinds_of, defScope s_kinds_of, [], []⟩
def d_f_params_word : He.DefD := ⟨("params_word", none), "params_word", "params_word", defArgs s_params_word, defBody s_params_word, defScope s_params_word, [], []⟩
def d_f_form_parts : He.DefD := ⟨("form_parts", none), "form_parts", "form_parts", defArgs s_form_parts, defBody s_form_parts, defScope s_form_parts, [], []⟩
def d_f_write_form : He.DefD := ⟨("write_form", none), "write_form", "write_form", defArgs s_write_form, defBody s_write_form, defScope s_write_form, [], []⟩
def d_f_is_name : He.DefD := ⟨("is_name", none), "is_name", "is_name", defArgs s_is_name, defBody s_is_name, defScope s_is_name, [], []⟩
def d_f_are_params : He.DefD := ⟨("are_params", none), "are_params", "are_params", defArgs s_are_params, defBody s_are_params, defScope s_are_params, [], []⟩
def d_f_is_small : He.DefD := ⟨("is_small", none), "is_small", "is_small", defArgs s_is_small, defBody s_is_small, defScope s_is_small, [], []⟩
def d_f_words_of : He.DefD := ⟨("words_of", none), "words_of", "words_of", defArgs s_words_of, defBody s_words_of, defScope s_words_of, [], []⟩
def d_f_is_decimal : He.DefD := ⟨("is_decimal", none), "is_decimal", "is_decimal", defArgs s_is_decimal, defBody s_is_decimal, defScope s_is_decimal, [], []⟩
def d_f_begun : He.DefD := ⟨("begun", none), "begun", "begun", defArgs s_begun, defBody s_begun, defScope s_begun, [], []⟩
def d_f_take_form : He.DefD := ⟨("take_form", none), "take_form", "take_form", defArgs s_take_form, defBody s_take_form, defScope s_take_form, [], []⟩
def d_f_read_form : He.DefD := ⟨("read_form", none), "read_form", "read_form", defArgs s_read_form, defBody s_read_form, defScope s_read_form, [], []⟩
def d_f__law_bag : He.DefD := ⟨("_law_bag", none), "_law_bag", "_law_bag", defArgs s__law_bag, defBody s__law_bag, defScope s__law_bag, [], []⟩
def d_f__law_pick : He.DefD := ⟨("_law_pick", none), "_law_pick", "_law_pick", defArgs s__law_pick, defBody s__law_pick, defScope s__law_pick, [], []⟩
def d_f__law_choice : He.DefD := ⟨("_law_choice", none), "_law_choice", "_law_choice", defArgs s__law_choice, defBody s__law_choice, defScope s__law_choice, [], []⟩
def d_f__law_one_in : He.DefD := ⟨("_law_one_in", none), "_law_one_in", "_law_one_in", defArgs s__law_one_in, defBody s__law_one_in, defScope s__law_one_in, [], []⟩
def d_f__law_shuffled : He.DefD := ⟨("_law_shuffled", none), "_law_shuffled", "_law_shuffled", defArgs s__law_shuffled, defBody s__law_shuffled, defScope s__law_shuffled, [], []⟩
def d_f__law_letters : He.DefD := ⟨("_law_letters", none), "_law_letters", "_law_letters", defArgs s__law_letters, defBody s__law_letters, defScope s__law_letters, [], []⟩
def d_f__law_reserved : He.DefD := ⟨("_law_reserved", none), "_law_reserved", "_law_reserved", defArgs s__law_reserved, defBody s__law_reserved, defScope s__law_reserved, [], []⟩
def d_f__law_kinds : He.DefD := ⟨("_law_kinds", none), "_law_kinds", "_law_kinds", defArgs s__law_kinds, defBody s__law_kinds, defScope s__law_kinds, [], []⟩
def d_f__law_known : He.DefD := ⟨("_law_known", none), "_law_known", "_law_known", defArgs s__law_known, defBody s__law_known, defScope s__law_known, [], []⟩
def d_f__law_ranges : He.DefD := ⟨("_law_ranges", none), "_law_ranges", "_law_ranges", defArgs s__law_ranges, defBody s__law_ranges, defScope s__law_ranges, [], []⟩
def d_f__law_name : He.DefD := ⟨("_law_name", none), "_law_name", "_law_name", defArgs s__law_name, defBody s__law_name, defScope s__law_name, [], []⟩
def d_f__law_small : He.DefD := ⟨("_law_small", none), "_law_small", "_law_small", defArgs s__law_small, defBody s__law_small, defScope s__law_small, [], []⟩
def d_f__law_form : He.DefD := ⟨("_law_form", none), "_law_form", "_law_form", defArgs s__law_form, defBody s__law_form, defScope s__law_form, [], []⟩
def d_f__law_form_text : He.DefD := ⟨("_law_form_text", none), "_law_form_text", "_law_form_text", defArgs s__law_form_text, defBody s__law_form_text, defScope s__law_form_text, [], []⟩
def d_f__law_read : He.DefD := ⟨("_law_read", none), "_law_read", "_law_read", defArgs s__law_read, defBody s__law_read, defScope s__law_read, [], []⟩
def d_f__law_bad : He.DefD := ⟨("_law_bad", none), "_law_bad", "_law_bad", defArgs s__law_bad, defBody s__law_bad, defScope s__law_bad, [], []⟩
def d_f__law_other : He.DefD := ⟨("_law_other", none), "_law_other", "_law_other", defArgs s__law_other, defBody s__law_other, defScope s__law_other, [], []⟩
def d_f__law_refused : He.DefD := ⟨("_law_refused", none), "_law_refused", "_law_refused", defArgs s__law_refused, defBody s__law_refused, defScope s__law_refused, [], []⟩
def d_f_law : He.DefD := ⟨("law", none), "law", "law", defArgs s_law, defBody s_law, defScope s_law, [], []⟩
def fn : List He.DefD := [d_f_LineWords_MU_initU, d_f_LineWords_M_seen, d_f_LineWords_M_take, d_f_LineWords_M_shut, d_f_LineWords_M_take_integer, d_f_LineWords_M_take_params, d_f_LineWords_M_take_small, d_f_HalfForm_MU_initU, d_f_HalfForm_M_whole, d_f_kinds_of, d_f_params_word, d_f_form_parts, d_f_write_form, d_f_is_name, d_f_are_params, d_f_is_small, d_f_words_of, d_f_is_decimal, d_f_begun, d_f_take_form, d_f_read_form, d_f__law_bag, d_f__law_pick, d_f__law_choice, d_f__law_one_in, d_f__law_shuffled, d_f__law_letters, d_f__law_reserved, d_f__law_kinds, d_f__law_known, d_f__law_ranges, d_f__law_name, d_f__law_small, d_f__law_form, d_f__law_form_text, d_f__law_read, d_f__law_bad, d_f__law_other, d_f__law_refused, d_f_law]
def d_BadLine : FxH.InD := ⟨"BadLine", "line", "BadLine.__init__", inClass (top 4) 0⟩
theorem bd_BadLine : ∀ (fd : FuncData) (p1 p2 p3 : Pos), fd.params = xA2 d_BadLine.f "word" p1 p2 p3 → fd.defaults = .none → ∀ (u1 u2 u3 : Value), bindArgs fd ⟨[u1, u2, u3], []⟩ = pure [(("self" : Str), u1), (d_BadLine.f, u2), ("word", u3)] := fun fd p1 p2 p3 e1 e2 u1 u2 u3 => by
  obtain ⟨n1, n2, n3, n4, n5, n6, n7, n8, n9, n10, n11, n12, n13, n14, n15⟩ := fd
  dsimp only at e1 e2
  subst e1 e2
  rfl
def fi : List FxH.InD := [d_BadLine]
def fa : List FxH.Fct := [(He.Fa.free "ValueError").ok,
  (He.Fa.free "all").ok,
  (He.Fa.free "enumerate").ok,
  (He.Fa.free "int").ok,
  (He.Fa.free "isinstance").ok,
  (He.Fa.free "len").ok,
  (He.Fa.free "list").ok,
  (He.Fa.free "range").ok,
  (He.Fa.free "repr").ok,
  (He.Fa.free "str").ok,
  (He.Fa.free "tuple").ok,
  (He.Fa.free "super").ok,
  (He.Fa.str "DIGITS" "0123456789").ok,
  (He.Fa.glo "KNOWN_NAMES").ok,
  (He.Fa.str "LETTERS" "abcdefghijklmnopqrstuvwxyz").ok,
  (He.Fa.int "LONGEST_INTEGER" 5).ok,
  (He.Fa.str "NUMBERS" "abcd").ok,
  (He.Fa.glo "NUMBER_FORMS").ok,
  (He.Fa.glo "RANGES").ok,
  (He.Fa.glo "RESERVED").ok,
  (He.Fa.str "THINGS" "xyz").ok,
  (He.Fa.glo "THING_FORMS").ok,
  (He.Fa.glo "BadLine").ok,
  (fun K => He.eqO (PySem.W.findIn K (.ref (He.ga K "BadLine")) "word") (some none)),
  (fun K => FxH.excB K "BadLine"),
  (He.Fa.glo "BadPart").ok,
  (He.Fa.glo "FableError").ok,
  (He.Fa.glo "HalfForm").ok,
  (He.Fa.glo "LineWords").ok,
  (He.Fa.cls "HalfForm").ok,
  (He.Fa.cls "LineWords").ok,
  (He.Fa.noat "HalfForm" "dues").ok,
  (He.Fa.noat "HalfForm" "head").ok,
  (He.Fa.noat "HalfForm" "read_parts_now").ok,
  (He.Fa.noat "LineWords" "number").ok,
  (He.Fa.noat "LineWords" "taken_many").ok,
  (He.Fa.noat "LineWords" "words").ok,
  (fun K => decide (PySem.W.kitOne K (.ref (He.ga K "BadLine")) (.ref (He.ga K "BadLine")) = some true)),
  (fun K => decide (PySem.W.kitOne K (.ref (He.ga K "BadLine")) (.type "ValueError") = some true)),
  (fun K => decide (PySem.W.kitOne K (.ref (He.ga K "BadLine")) (.ref (He.ga K "BadPart")) = some false)),
  (fun K => decide (PySem.W.exmOne K (.ref (He.ga K "BadLine")) (.ref (He.ga K "FableError")) = some true)),
  (fun K => kdB K "NUMBER_FORMS" (numForms.map fun r => (r.1, r.2.map V.str))),
  (fun K => kdB K "THING_FORMS" (thForms.map fun r => (r.1, r.2.map V.str))),
  (fun K => kdB K "KNOWN_NAMES" (knownT.map fun r => (r.1, r.2.map V.str))),
  (fun K => kdB K "RANGES" rangeV),
  (fun K => tupV K (.ref (He.ga K "RESERVED")) (resW.map V.str)),
  (He.Fa.mkr "LineWords").ok,
  (He.Fa.meth "LineWords" "seen").ok,
  (He.Fa.meth "LineWords" "take").ok,
  (He.Fa.meth "LineWords" "shut").ok,
  (He.Fa.meth "LineWords" "take_integer").ok,
  (He.Fa.meth "LineWords" "take_params").ok,
  (He.Fa.meth "LineWords" "take_small").ok,
  (He.Fa.mkr "HalfForm").ok,
  (He.Fa.meth "HalfForm" "whole").ok,
  (He.Fa.glo "kinds_of").ok,
  (He.Fa.glo "params_word").ok,
  (He.Fa.glo "form_parts").ok,
  (He.Fa.glo "write_form").ok,
  (He.Fa.glo "is_name").ok,
  (He.Fa.glo "are_params").ok,
  (He.Fa.glo "is_small").ok,
  (He.Fa.glo "words_of").ok,
  (He.Fa.glo "is_decimal").ok,
  (He.Fa.glo "begun").ok,
  (He.Fa.glo "take_form").ok,
  (He.Fa.glo "read_form").ok,
  (He.Fa.glo "_law_bag").ok,
  (He.Fa.glo "_law_pick").ok,
  (He.Fa.glo "_law_choice").ok,
  (He.Fa.glo "_law_one_in").ok,
  (He.Fa.glo "_law_shuffled").ok,
  (He.Fa.glo "_law_letters").ok,
  (He.Fa.glo "_law_reserved").ok,
  (He.Fa.glo "_law_kinds").ok,
  (He.Fa.glo "_law_known").ok,
  (He.Fa.glo "_law_ranges").ok,
  (He.Fa.glo "_law_name").ok,
  (He.Fa.glo "_law_small").ok,
  (He.Fa.glo "_law_form").ok,
  (He.Fa.glo "_law_form_text").ok,
  (He.Fa.glo "_law_read").ok,
  (He.Fa.glo "_law_bad").ok,
  (He.Fa.glo "_law_other").ok,
  (He.Fa.glo "_law_refused").ok,
  (He.Fa.glo "law").ok]
abbrev R : PySem.W.OpenRow := PySem.W.OpenLaw.row PySem.Challenge.rw_fablemill_k39_forms_written
def file : Str := PySem.Challenge.pw_fablemill_k39_forms_written.main.file
def fs : List FxH.StE := []
def ts : List He.Tab := [((fun K => He.ga K "NUMBER_FORMS"), (numForms.map (·.1))), ((fun K => He.ga K "THING_FORMS"), (thForms.map (·.1))), ((fun K => He.ga K "KNOWN_NAMES"), (knownT.map (·.1))), ((fun K => He.ga K "RANGES"), rangeK)]
abbrev hk : PySem.W.Hook := FxH.hookT 5 file fa fn fi fs ts
def ob (s : PySem.W.SharedT) : FxH.AlT := FxH.obsTG 5 file fa fn fi fs ts (HandSHeadRun.getT s)
theorem ob_eq (s : PySem.W.SharedT) : ob s = hk.obs s.abs := FxH.obsTG_eq (HandSHeadRun.getT_eq s)
def loose : List PySem.Str := (["_wall", "FableError", "BadPart", "BadLine", "NUMBERS", "THINGS", "RESERVED", "STATEMENTS", "NUMBER_FORMS", "THING_FORMS", "kinds_of", "params_word"] : List PySem.Str) ++ (["form_parts", "write_form", "SIGNS", "LETTERS", "LONGEST", "is_text", "is_integer", "KNOWN_NAMES", "RANGES", "is_name", "is_said", "are_params"] : List PySem.Str) ++ (["is_small", "DIGITS", "LONGEST_INTEGER", "words_of", "is_decimal", "is_quoted", "LineWords", "HalfForm", "begun", "take_form", "read_form", "_law_bag"] : List PySem.Str) ++ (["_law_pick", "_law_choice", "_law_one_in", "_law_shuffled", "_law_letters", "_law_reserved", "_law_kinds", "_law_known", "_law_ranges", "_law_name", "_law_small", "_law_form"] : List PySem.Str) ++ (["_law_form_text", "_law_read", "_law_bad", "_law_other", "_law_refused"] : List PySem.Str)
section
open HandSHeadRun PySem.W PySem FxH He
noncomputable def hX0 (w : World) (os : OsState) := endF (stepQ (denQ tabQ) R.prog w) 20000 R.prog w os
noncomputable def hFr (s : SharedT) : PySem.W.Frag := frG (getT s) (asR (getT s) 5)
noncomputable def oA (w : World) (s : SharedT) := (looksF R.prog (boot_heap w.params) s.abs, seenQ (PySem.W.view R.prog [62]) loose (PySem.importedModules R.prog.main.body) (fun s => xlAt (PySem.W.view R.prog [62]) [] s && recOk R.toRowW.records s) s.abs)
noncomputable def oB (s : SharedT) : Bool := let K := hFr s; fa.all fun f => f K
noncomputable def oC (s : SharedT) := let K := hFr s; ((fn.all fun d => d.ok K), (fi.all fun d => d.ok file K), (fn.map fun d => fnW K d.at_), (fi.map fun d => fnXo K d.x), (fs.all fun d => d.ok K), (fs.map fun d => fnE K d), (ts.map fun t => dicW K (t.1 K)))
def hF1 {α β γ : Type} (a : α × β) (b : γ) : α × β × γ := (a.1, a.2, b)
def hF2 {β γ δ ε : Type} (b : Bool) (c : Bool × Bool × β × γ × Bool × δ × ε) : ((Bool × β × γ) × (Bool × δ)) × ε := (((((b && c.1) && c.2.1), c.2.2.1, c.2.2.2.1), (c.2.2.2.2.1, c.2.2.2.2.2.1)), c.2.2.2.2.2.2)
theorem hGl (w : World) (os : OsState) : (endF (stepQ (denQ tabQ) R.prog w) 20000 R.prog w os).map (fun s => (looksF R.prog (boot_heap w.params) s.abs, seenQ (PySem.W.view R.prog [62]) loose (PySem.importedModules R.prog.main.body) (fun s => xlAt (PySem.W.view R.prog [62]) [] s && recOk R.toRowW.records s) s.abs, ob s)) = (hX0 w os).map (fun s => hF1 (oA w s) (hF2 (oB s) (oC s))) := by kernel_rfl
theorem pA_true (w : World) (os : OsState) : (hX0 (Fx.wt true w) os).map (oA (Fx.wt true w)) = some (true, openGood (PySem.W.view R.prog [62]) loose) := by kernel_rfl
theorem pB_true (w : World) (os : OsState) : (hX0 (Fx.wt true w) os).map oB = some true := by kernel_rfl
theorem pC_true (w : World) (os : OsState) : (hX0 (Fx.wt true w) os).map oC = some (true, true, fn.map He.DefD.val, fi.map FxH.InD.val, true, fs.map StE.val, ts.map fun t => some (keysIn (Fx.wt true w).params t.2)) := by kernel_rfl
theorem hGr_true (w : World) : some (hF1 (true, openGood (PySem.W.view R.prog [62]) loose) (hF2 true (true, true, fn.map He.DefD.val, fi.map FxH.InD.val, true, fs.map StE.val, ts.map fun t => some (keysIn (Fx.wt true w).params t.2)))) = some (true, openGood (PySem.W.view R.prog [62]) loose, hk.val (Fx.wt true w)) := by kernel_rfl
theorem run_true (w : World) : HandSHeadRun.RunEq R (PySem.W.view R.prog [62]) hk ob 20000 loose (Fx.wt true w) := fun os => ((hGl (Fx.wt true w) os).trans (Fx.map2 hF1 (pA_true w os) (Fx.map2 hF2 (pB_true w os) (pC_true w os)))).trans (hGr_true w)
theorem pA_false (w : World) (os : OsState) : (hX0 (Fx.wt false w) os).map (oA (Fx.wt false w)) = some (true, openGood (PySem.W.view R.prog [62]) loose) := by kernel_rfl
theorem pB_false (w : World) (os : OsState) : (hX0 (Fx.wt false w) os).map oB = some true := by kernel_rfl
theorem pC_false (w : World) (os : OsState) : (hX0 (Fx.wt false w) os).map oC = some (true, true, fn.map He.DefD.val, fi.map FxH.InD.val, true, fs.map StE.val, ts.map fun t => some (keysIn (Fx.wt false w).params t.2)) := by kernel_rfl
theorem hGr_false (w : World) : some (hF1 (true, openGood (PySem.W.view R.prog [62]) loose) (hF2 true (true, true, fn.map He.DefD.val, fi.map FxH.InD.val, true, fs.map StE.val, ts.map fun t => some (keysIn (Fx.wt false w).params t.2)))) = some (true, openGood (PySem.W.view R.prog [62]) loose, hk.val (Fx.wt false w)) := by kernel_rfl
theorem run_false (w : World) : HandSHeadRun.RunEq R (PySem.W.view R.prog [62]) hk ob 20000 loose (Fx.wt false w) := fun os => ((hGl (Fx.wt false w) os).trans (Fx.map2 hF1 (pA_false w os) (Fx.map2 hF2 (pB_false w os) (pC_false w os)))).trans (hGr_false w)
end
theorem run (w : World) : HandSHeadRun.RunEq R (PySem.W.view R.prog [62]) hk ob 20000 loose w := Fx.of_wt (p := HandSHeadRun.RunEq R (PySem.W.view R.prog [62]) hk ob 20000 loose) (fun b w => match b with
  | true => run_true w
  | false => run_false w) w
local macro_rules | `(tactic| walk_at "rd") => `(tactic| try simp only [cx_K, Fx.rInK, L2.rNewStrs, Fx.rStrC, Fx.tRaiseFx2, Fx.tMkFx2, rIxD, Fx.rIxC, Fx.rLenC, Fx.rListZ, sFldAug, L2.rAdd, L2.rSub, tCallSD, tDIn, tDNotIn, tDPop1, tDNewK, Fx.tSMeth, Fx.tSMethT, tProp, ClX.tCMeth, Fx.tCMethT, Fx.tMakeV, tAugS, Fx.gIxL, Fx.tTruI, rIxT, Fx.rSetO, Fx.rListOL, Fx.rIterL, tCallK, iKeys, tMethK, tLstRg, tRg1, tRg2, L2.start, List.map_cons, List.map_nil, List.length_cons, List.length_nil, List.cons_append, List.nil_append, List.append_nil, Nat.reduceAdd, Nat.reduceSub, List.replicate, tSeq, tIfS, tTest, tB, tOp, tVar, tC, tAsg, gName, tRet, tRetN, tDrop, tCB, tCons, tNil, rI0, rI, tNext, tNot, tAnd, tOr, tIf, tAndV, tOrV, tNotV, tUn, rU, tDGet, sDPut, tCall, tCallS, tTup, tLst, tSl, tPart, tNoPart, rSlS, tM0, tM1, rIxLt, rIxTt, rIxSt, rLenL, rLenT, rLenS, rIntI, rOrd, rSlLt, tBM, tBM0, rAppend, rExtend, rRep, rCat, rIxQ, rLenQ, rTupQ, rTupL, rMin2, rAnd255, rNonIs, rNonNot, rNeL, rNeT, rEqT, rIns, rPopAt, rSetL, gSub, rExtQ, rSlQ, iList, iTup, iRng1, iRng2, iStr, tFld, sFld, gFld, gTup, tMethT, tMakeT, tCallE, rIntB, rOwnEq, rRepr, rIsI, rLenO, rInO, rNotInO, rBinO, rNeO, rIxO, rListO, rIterT, rSortS, Fx.rInS, rIdxT, rIdxL, rListD, tRevL, tDGet2, rLstQ, Fx.rCntS, rIterTN, iOwn, tDead, rIxF, rLenF, rInF, rIdxF, tBMF, rEqF, rTupF, tMake, tMeth, tChain, tDep, tCallO, tBinT, rSortZ, ipZ, cx_w, rLj, rJn, rIsBl, rNoBl, tRaiseFx, tMkFx, tAug, ipI, tCont, tBreak, gCons, gNil, rLstL, rLstT, rAllL, rAnyL, rMulS, Fx.rIsB, tYes, wipe, rEqL, rEq, rNe, scal, tyv_non, tyv_bl, tyv_int, tyv_str, kb_int_int, kb_int_bool, kb_bool_int, kb_bool_bool, kb_str_str, kb_int_str, kb_bool_str, kb_none_str, kb_list_str, kb_tuple_str, kb_dict_str, kb_tuple_tuple, kb_list_list, List.getElem?_cons_zero, List.getElem?_cons_succ, List.set_cons_zero, List.set_cons_succ, Option.some.injEq, V.int.injEq, V.str.injEq, V.bl.injEq, V.ref.injEq, V.ty.injEq, HO.lst.injEq, HO.tup.injEq, List.cons.injEq, reduceCtorEq, false_and, and_false, or_false, false_or, exists_false, and_true, true_and, exists_and_left, exists_eq_left, exists_eq_left', exists_eq, exists_eq', and_assoc, ite_dec, ite_ndec, upd_same, if_true, Bool.false_eq_true, if_false, Bool.not_true, Bool.not_false])
section
variable {P : Program} {w : World} {K : PySem.W.Frag} {mg : Str → Option Value} {base : Heap}
theorem ok_words_of (S : Src K mg "words_of" s_words_of) (T : Tx P K mg) (TD : Td w K)   : Cal P w K mg base CX0 1 "words_of" ["line"] spWordsOf := by
  refine S.cal sc_words_of bn_words_of (fun vs H Q E h => ?_) (fun f cdv A outer s H vs Q E hr h => ?_)
  · first | (obtain ⟨rfl, _⟩ := h; rfl) | (obtain ⟨_, rfl, _⟩ := h; rfl) | (obtain ⟨_, _, rfl, _⟩ := h; rfl) | (obtain ⟨_, _, _, rfl, _⟩ := h; rfl) | (obtain ⟨_, _, _, _, rfl, _⟩ := h; rfl) | (obtain ⟨_, _, _, _, _, rfl, _⟩ := h; rfl) | (obtain ⟨_, _, _, _, _, _, rfl, _⟩ := h; rfl) | (obtain ⟨_, _, _, _, _, _, _, rfl, _⟩ := h; rfl) | (obtain ⟨_, _, _, _, _, _, _, _, rfl, _⟩ := h; rfl) | (obtain ⟨_, _, _, _, _, _, _, _, _, rfl, _⟩ := h; rfl) | (obtain ⟨_, _, _, _, _, _, _, _, _, _, rfl, _⟩ := h; rfl) | (obtain ⟨_, _, _, _, _, _, _, _, _, _, _, rfl, _⟩ := h; rfl) | (obtain ⟨_, _, _, _, _, _, _, _, _, _, _, _, rfl, _⟩ := h; rfl)
  · skip
    refine ⟨_, (pss_cons (ps_set (i := 1) sc_words_of.nd rfl (Or.inl rfl) (pe_m1 PySem.F.slot_str_split PySem.F.type_str_split mt_split (pv 0) pe_str))
        (pss_cons (ps_for PassesOwn.never rfl (Fx.pi_enumQ rfl T.b_enumerate (Fx.pa_c (pv 1) pa_nil)) (pg_tup rfl (pgs_cons (pg_name (i := 2) sc_words_of.nd rfl (Or.inl rfl)) (pgs_cons (pg_name (i := 3) sc_words_of.nd rfl (Or.inl rfl)) pgs_nil))) (pss_one (ps_if (pt_val (pe_m1 PySem.F.slot_str_startswith PySem.F.type_str_startswith mt_startswith (pv 3) pe_str)) (pss_one (ps_ret (pe_op op_cat (pe_slice Fx.sl_L (pv 1) po_none (po_some (pv 2))) (pe_lst (Fx.pa_c (pe_m1 PySem.F.slot_str_join PySem.F.type_str_join Fx.mt_jn pe_str (pe_slice Fx.sl_L (pv 1) (po_some (pv 2)) po_none)) pa_nil))))) pss_nil)))
        (pss_one (ps_ret (pv 1))))), ?_⟩
    obtain ⟨z, rfl, hz, q⟩ := h
    refine seqI fun K1 k1 => ?_
    walk_at "rd"
    refine ⟨by decide +kernel, Nat.le_trans (by omega : z.length + 2 ≤ 100000) (by decide), fun pw nw => ?_⟩
    have s1 := same_new (o := HO.lst ((Txt.split z " ").map V.str)) nw
    have hw : (upd H pw (.lst ((Txt.split z " ").map V.str))) pw = some (.lst (ms (Txt.split z " "))) := upd_same
    generalize upd H pw (.lst ((Txt.split z " ").map V.str)) = H1 at s1 hw
    refine k1 _ _ ?_
    clear k1
    refine seqI fun K1 k1 => ?_
    obtain ⟨sw, esw⟩ : ∃ sw, sw = Txt.split z " " := ⟨_, rfl⟩
    rw [← esw] at hw
    refine for_enumQ (K := K) (a := pw) (xs := ms sw) (fun Q h => ⟨_, rfl, h⟩) (.inl hw) (fun i σ H' => ∃ v2 v3 : Option V, σ = [some (.str z), some (.ref pw), v2, v3] ∧ Same H1 H' ∧ ∀ w ∈ sw.take i, startsQ w = false) ⟨none, none, rfl, Same.refl H1, fun w h => by cases h⟩ ?_ ?_ ?_
    · rintro i σ H' ⟨_, _, _, s, _⟩ o e
      exact s _ _ e
    · rintro i y T' σ H' hy ⟨v2, v3, rfl, s2, ha⟩ nT
      obtain ⟨w, ew, hsw⟩ : ∃ w, y = .str w ∧ sw[i]? = some w := by
        unfold ms at hy
        rw [List.getElem?_map] at hy
        cases e : sw[i]? with
        | none => rw [e] at hy; cases hy
        | some w => rw [e] at hy; exact ⟨w, (Option.some.inj hy).symm, rfl⟩
      subst ew
      have sT := same_new (o := .tup [.int (i : Nat), .str w]) nT
      refine ⟨T', _, rfl, .inl (.inl upd_same), rfl, _, _, rfl, _, _, rfl, rfl, ?_⟩
      walk_at "rd"
      have hw1 := sT _ _ (s2 _ _ hw)
      have s3 := (s1.trans s2).trans sT
      have s23 := s2.trans sT
      clear hw hy s2 nT sT
      generalize upd H' T' (.tup [.int (i : Nat), .str w]) = H2 at hw1 s3 s23
      have hi := (List.getElem?_eq_some_iff.mp hsw).1
      have e1 : cutV (ms sw) none (some (i : Int)) = ms (sw.take i) := by
        rw [cutV_hi]
        unfold ms
        rw [List.map_take]
      have e2 : cutV (ms sw) (some (i : Int)) none = ms (sw.drop i) := by
        rw [cutV_lo]
        unfold ms
        rw [List.map_drop]
      obtain ⟨b1, b2⟩ := split_b z
      rw [← esw] at b1 b2
      refine ite_i (fun hq => ⟨_, hw1, fun p mp => ?_⟩) (fun hq => ⟨s23, fun u hu => ?_⟩)
      · rw [e1]
        have sp := same_new (o := HO.lst (ms (sw.take i))) mp
        have hp : (upd H2 p (.lst (ms (sw.take i)))) p = some (.lst (ms (sw.take i))) := upd_same
        rw [e1] at *
        generalize upd H2 p (.lst (ms (sw.take i))) = H3 at sp hp
        refine ⟨_, sp _ _ hw1, fun p1 mp1 => ?_⟩
        rw [e2]
        have sp1 := same_new (o := HO.lst (ms (sw.drop i))) mp1
        replace hp := sp1 _ _ hp
        generalize upd H3 p1 (.lst (ms (sw.drop i))) = H4 at sp1 hp
        refine ⟨sw.drop i, rfl, ?_, by decide, fun p2 mp2 => ?_⟩
        · have := sum_drop (sw.map (·.length)) i
          rw [List.map_drop, List.length_drop, show (" " : Str).length = 1 by decide +kernel]
          omega
        have sp2 := same_new (o := HO.lst [V.str (Txt.join " " (sw.drop i))]) mp2
        replace hp := sp2 _ _ hp
        generalize upd H4 p2 (.lst [V.str (Txt.join " " (sw.drop i))]) = H5 at sp2 hp
        refine ⟨_, hp, ?_, fun p3 mp3 => ?_⟩
        · unfold ms
          rw [List.length_map, List.length_take]
          exact Nat.le_trans (show _ ≤ 100002 by omega) (by decide)
        have s5 := ((s3.trans sp).trans sp1).trans sp2
        refine q p3 _ (s5.trans (same_new mp3)) ?_ ?_
        · cases e : H p3 with
          | none => rfl
          | some o => rw [s5 _ _ e] at mp3; cases mp3
        · rw [upd_same]
          have ed : sw.drop i = w :: sw.drop (i + 1) := by
            rw [List.drop_eq_getElem_cons hi, (List.getElem?_eq_some_iff.mp hsw).2]
          have ew : wordsOf z = sw.take i ++ [Txt.join " " (sw.drop i)] := by
            unfold wordsOf
            rw [← esw]
            conv => lhs; rw [← List.take_append_drop i sw, ed]
            rw [qj_app ha, ed]
            congr 1
            unfold qj
            rw [if_pos (show startsQ w = true from hq)]
          rw [ew]
          unfold ms
          rw [List.map_append]
          rfl
      · rw [List.take_add_one, hsw] at hu
        rcases List.mem_append.mp hu with hu | hu
        · exact ha u hu
        · rw [List.mem_singleton.mp hu]
          exact Bool.eq_false_iff.mpr hq
    rintro σ H' ⟨v2, v3, rfl, s2, ha⟩
    refine k1 _ _ ?_
    clear k1
    walk_at "rd"
    rw [List.take_of_length_le (by unfold ms; rw [List.length_map]; exact Nat.le_refl _)] at ha
    refine q pw H' (s1.trans s2) nw ?_
    unfold wordsOf
    rw [← esw, qj_id ha]
    exact s2 _ _ hw
end
section
variable {P : Program} {w : World} {K : PySem.W.Frag} {mg : Str → Option Value} {base : Heap}
theorem ok_LineWords_MU_initU {f0 : Addr} {fd : FuncData} (F : FunD K "__init__" "LineWords.__init__" (defArgs s_LineWords_MU_initU) (defBody s_LineWords_MU_initU) (defScope s_LineWords_MU_initU) [] [] f0 fd) (M : Mk K (He.ga K "LineWords") f0) (T : Tx P K mg) (TD : Td w K) (C_words_of : Cal P w K mg base CX0 1 "words_of" ["line"] spWordsOf)  : CalI P w K mg base CX0 2 (He.ga K "LineWords") ["self", "number", "line"] (spLWI K) := by
  refine ⟨f0, fd, M, F.bindsN bn_LineWords_MU_initU, ok0 F sc_LineWords_MU_initU (fun vs H Q E h => ?_) (fun f cdv A outer s H vs Q E hr h => ?_)⟩
  · first | (obtain ⟨rfl, _⟩ := h; rfl) | (obtain ⟨_, rfl, _⟩ := h; rfl) | (obtain ⟨_, _, rfl, _⟩ := h; rfl) | (obtain ⟨_, _, _, rfl, _⟩ := h; rfl) | (obtain ⟨_, _, _, _, rfl, _⟩ := h; rfl) | (obtain ⟨_, _, _, _, _, rfl, _⟩ := h; rfl) | (obtain ⟨_, _, _, _, _, _, rfl, _⟩ := h; rfl) | (obtain ⟨_, _, _, _, _, _, _, rfl, _⟩ := h; rfl) | (obtain ⟨_, _, _, _, _, _, _, _, rfl, _⟩ := h; rfl) | (obtain ⟨_, _, _, _, _, _, _, _, _, rfl, _⟩ := h; rfl) | (obtain ⟨_, _, _, _, _, _, _, _, _, _, rfl, _⟩ := h; rfl) | (obtain ⟨_, _, _, _, _, _, _, _, _, _, _, rfl, _⟩ := h; rfl) | (obtain ⟨_, _, _, _, _, _, _, _, _, _, _, _, rfl, _⟩ := h; rfl)
  · skip
    refine ⟨_, (pss_cons (ps_fld (pv 0) (pv 1) rfl)
        (pss_cons (ps_fld (pv 0) (Fx.pe_cal C_words_of (hr.mono (by decide)) pass0 (Fx.pa_c (pv 2) pa_nil)) rfl)
        (pss_one (ps_fld (pv 0) pe_int rfl)))), ?_⟩
    obtain ⟨x, dx, num, z, rfl, hx, hz, q⟩ := h
    walk_at "rd"
    refine ⟨_, _, _, hx, T.cl_LineWords, T.n_LineWords_number, (show 0 < 1000 by decide), z, rfl, hz, fun pw H1 s1 npw hpw => ?_⟩
    have hx1 := s1 _ _ upd_same
    have npx : pw ≠ x := fun e => by rw [e, upd_same] at npw; cases npw
    rw [upd_ne npx] at npw
    refine ⟨_, _, _, hx1, T.cl_LineWords, T.n_LineWords_words, (show 1 < 1000 by decide), _, _, _, rfl, T.cl_LineWords, T.n_LineWords_taken_many, (show 2 < 1000 by decide), q pw _ (fun b o hb e => ?_) npw ⟨⟨dx, ?_⟩, ?_, ?_, Nat.zero_le _⟩⟩
    · rw [upd_upd, upd_ne hb]
      exact s1 _ _ (by rw [upd_ne hb]; exact e)
    · rw [upd_same]
      rfl
    · rw [upd_upd, upd_ne npx]
      exact hpw
    · unfold wordsOf
      have := qj_len (Txt.split z " ")
      have := (split_b z).2
      omega
end
section
variable {P : Program} {w : World} {K : PySem.W.Frag} {mg : Str → Option Value} {base : Heap}
theorem ok_LineWords_M_seen {f0 : Addr} {fd : FuncData} (F : FunD K "seen" "LineWords.seen" (defArgs s_LineWords_M_seen) (defBody s_LineWords_M_seen) (defScope s_LineWords_M_seen) [] [] f0 fd) (M : Meth K (He.ga K "LineWords") "seen" f0) (T : Tx P K mg) (TD : Td w K)   : CalM P w K mg base CX0 1 (He.ga K "LineWords") "seen" ["self"] (spSeen K) := by
  refine ⟨f0, fd, M, F.bindsN bn_LineWords_M_seen, ok0 F sc_LineWords_M_seen (fun vs H Q E h => ?_) (fun f cdv A outer s H vs Q E hr h => ?_)⟩
  · first | (obtain ⟨rfl, _⟩ := h; rfl) | (obtain ⟨_, rfl, _⟩ := h; rfl) | (obtain ⟨_, _, rfl, _⟩ := h; rfl) | (obtain ⟨_, _, _, rfl, _⟩ := h; rfl) | (obtain ⟨_, _, _, _, rfl, _⟩ := h; rfl) | (obtain ⟨_, _, _, _, _, rfl, _⟩ := h; rfl) | (obtain ⟨_, _, _, _, _, _, rfl, _⟩ := h; rfl) | (obtain ⟨_, _, _, _, _, _, _, rfl, _⟩ := h; rfl) | (obtain ⟨_, _, _, _, _, _, _, _, rfl, _⟩ := h; rfl) | (obtain ⟨_, _, _, _, _, _, _, _, _, rfl, _⟩ := h; rfl) | (obtain ⟨_, _, _, _, _, _, _, _, _, _, rfl, _⟩ := h; rfl) | (obtain ⟨_, _, _, _, _, _, _, _, _, _, _, rfl, _⟩ := h; rfl) | (obtain ⟨_, _, _, _, _, _, _, _, _, _, _, _, rfl, _⟩ := h; rfl)
  · skip
    refine ⟨_, (pss_cons (ps_if (pt_cmpR op_lt (Fx.pe_fldK (K := K) rfl (pv 0) rfl) (Fx.pe_cB Fx.len_L T.b_len (by decide +kernel) (Fx.pa_c (Fx.pe_fldK (K := K) rfl (pv 0) rfl) pa_nil)) (nomark _)) (pss_one (ps_ret (pe_ix Fx.ix_L (Fx.pe_fldK (K := K) rfl (pv 0) rfl) (Fx.pe_fldK (K := K) rfl (pv 0) rfl) (fun _ _ => rfl)))) pss_nil)
        (pss_one (ps_ret pe_non))), ?_⟩
    obtain ⟨x, p, num, ws, k, rfl, L, q⟩ := h
    obtain ⟨dx, hx⟩ := L.ins
    walk_at "rd"
    refine ⟨_, _, _, hx, T.cl_LineWords, T.n_LineWords_taken_many, _, rfl, _, _, _, hx, T.cl_LineWords, T.n_LineWords_words, _, rfl, _, rfl, _, L.row, _, rfl, ite_i (fun hk => ?_) (fun hk => ?_)⟩
    · have hkl : k < ws.length := by
        unfold ms at hk
        rw [List.length_map] at hk
        omega
      refine ⟨_, _, _, hx, T.cl_LineWords, T.n_LineWords_words, _, rfl, _, _, _, hx, T.cl_LineWords, T.n_LineWords_taken_many, _, rfl, _, rfl, _, rfl, _, L.row, _, ?_, q⟩
      refine atI_get ?_
      unfold ms
      rw [List.getElem?_map, List.getElem?_eq_getElem hkl]
      rfl
    · have hkl : ws.length ≤ k := by
        unfold ms at hk
        rw [List.length_map] at hk
        omega
      rw [List.getElem?_eq_none hkl] at q
      exact q
end
section
variable {P : Program} {w : World} {K : PySem.W.Frag} {mg : Str → Option Value} {base : Heap}
theorem ok_LineWords_M_take {f0 : Addr} {fd : FuncData} (F : FunD K "take" "LineWords.take" (defArgs s_LineWords_M_take) (defBody s_LineWords_M_take) (defScope s_LineWords_M_take) [] [] f0 fd) (M : Meth K (He.ga K "LineWords") "take" f0) (T : Tx P K mg) (TD : Td w K)   : CalM P w K mg base (L2.CX P w) 3 (He.ga K "LineWords") "take" ["self", "good"] (spTake K) := by
  refine ⟨f0, fd, M, F.bindsN bn_LineWords_M_take, okX F sc_LineWords_M_take (fun vs H Q E h => ?_) (fun f cdv A outer s H vs Q E hr h => ?_)⟩
  · first | (obtain ⟨rfl, _⟩ := h; rfl) | (obtain ⟨_, rfl, _⟩ := h; rfl) | (obtain ⟨_, _, rfl, _⟩ := h; rfl) | (obtain ⟨_, _, _, rfl, _⟩ := h; rfl) | (obtain ⟨_, _, _, _, rfl, _⟩ := h; rfl) | (obtain ⟨_, _, _, _, _, rfl, _⟩ := h; rfl) | (obtain ⟨_, _, _, _, _, _, rfl, _⟩ := h; rfl) | (obtain ⟨_, _, _, _, _, _, _, rfl, _⟩ := h; rfl) | (obtain ⟨_, _, _, _, _, _, _, _, rfl, _⟩ := h; rfl) | (obtain ⟨_, _, _, _, _, _, _, _, _, rfl, _⟩ := h; rfl) | (obtain ⟨_, _, _, _, _, _, _, _, _, _, rfl, _⟩ := h; rfl) | (obtain ⟨_, _, _, _, _, _, _, _, _, _, _, rfl, _⟩ := h; rfl) | (obtain ⟨_, _, _, _, _, _, _, _, _, _, _, _, rfl, _⟩ := h; rfl)
  · skip
    refine ⟨_, (pss_cons (ps_if (pt_not (pt_val (pv 1))) (pss_one (Fx.ps_raiseFx2 rfl T.x_BadLine T.g_BadLine T.b_super hr (takes_of rfl rfl rfl rfl) (Fx.pa_c (Fx.pe_fldK (K := K) rfl (pv 0) rfl) (Fx.pa_c (pe_op op_add (Fx.pe_fldK (K := K) rfl (pv 0) rfl) pe_int) pa_nil)))) pss_nil)
        (pss_cons (ps_fldaug (pv 0) pe_int in_add)
        (pss_one (ps_ret (pe_ix Fx.ix_L (Fx.pe_fldK (K := K) rfl (pv 0) rfl) (pe_op op_sub (Fx.pe_fldK (K := K) rfl (pv 0) rfl) pe_int) (fun _ _ => rfl)))))), ?_⟩
    obtain ⟨x, p, num, ws, k, g, rfl, L, qt, qf⟩ := h
    obtain ⟨dx, hx⟩ := L.ins
    walk_at "rd"
    cases g with
    | false =>
      refine Fx.ifT rfl ⟨_, _, _, hx, T.cl_LineWords, T.n_LineWords_number, _, rfl, _, _, _, hx, T.cl_LineWords, T.n_LineWords_taken_many, _, rfl, _, rfl, fun d nd => ?_⟩
      refine qf rfl d _ (But.of (same_new nd)) nd ?_
      rw [upd_same]
      rfl
    | true =>
      obtain ⟨wd, hwd, qq⟩ := qt rfl
      have hkl := (List.getElem?_eq_some_iff.mp hwd).1
      have hp : ∀ o, (upd H x o) p = some (.lst (ms ws)) := fun o => by rw [upd_ne (ne_of L.row hx (by intro z; cases z))]; exact L.row
      refine Fx.ifF (by decide) ⟨_, _, _, hx, T.cl_LineWords, T.n_LineWords_taken_many, _, rfl, _, rfl, _, _, hx, (show 3 < 1000 by decide), _, _, _, rfl, T.cl_LineWords, T.n_LineWords_words, _, rfl, _, _, _, rfl, T.cl_LineWords, T.n_LineWords_taken_many, _, rfl, _, rfl, p, rfl, _, hp _, .str wd, ?_, qq _ (fun b o hb e => by rw [upd_ne hb]; exact e) ⟨⟨dx, ?_⟩, hp _, L.many, hkl⟩⟩
      · rw [show ((k : Nat) : Int) + 1 - 1 = (k : Nat) by omega]
        refine atI_get ?_
        unfold ms
        rw [List.getElem?_map, hwd]
        rfl
      · rw [upd_same]
        rfl
end
section
variable {P : Program} {w : World} {K : PySem.W.Frag} {mg : Str → Option Value} {base : Heap}
theorem ok_LineWords_M_shut {f0 : Addr} {fd : FuncData} (F : FunD K "shut" "LineWords.shut" (defArgs s_LineWords_M_shut) (defBody s_LineWords_M_shut) (defScope s_LineWords_M_shut) [] [] f0 fd) (M : Meth K (He.ga K "LineWords") "shut" f0) (T : Tx P K mg) (TD : Td w K)   : CalM P w K mg base (L2.CX P w) 3 (He.ga K "LineWords") "shut" ["self"] (spShut K) := by
  refine ⟨f0, fd, M, F.bindsN bn_LineWords_M_shut, okX F sc_LineWords_M_shut (fun vs H Q E h => ?_) (fun f cdv A outer s H vs Q E hr h => ?_)⟩
  · first | (obtain ⟨rfl, _⟩ := h; rfl) | (obtain ⟨_, rfl, _⟩ := h; rfl) | (obtain ⟨_, _, rfl, _⟩ := h; rfl) | (obtain ⟨_, _, _, rfl, _⟩ := h; rfl) | (obtain ⟨_, _, _, _, rfl, _⟩ := h; rfl) | (obtain ⟨_, _, _, _, _, rfl, _⟩ := h; rfl) | (obtain ⟨_, _, _, _, _, _, rfl, _⟩ := h; rfl) | (obtain ⟨_, _, _, _, _, _, _, rfl, _⟩ := h; rfl) | (obtain ⟨_, _, _, _, _, _, _, _, rfl, _⟩ := h; rfl) | (obtain ⟨_, _, _, _, _, _, _, _, _, rfl, _⟩ := h; rfl) | (obtain ⟨_, _, _, _, _, _, _, _, _, _, rfl, _⟩ := h; rfl) | (obtain ⟨_, _, _, _, _, _, _, _, _, _, _, rfl, _⟩ := h; rfl) | (obtain ⟨_, _, _, _, _, _, _, _, _, _, _, _, rfl, _⟩ := h; rfl)
  · skip
    refine ⟨_, (pss_one (ps_if (pt_cmpR op_lt (Fx.pe_fldK (K := K) rfl (pv 0) rfl) (Fx.pe_cB Fx.len_L T.b_len (by decide +kernel) (Fx.pa_c (Fx.pe_fldK (K := K) rfl (pv 0) rfl) pa_nil)) (nomark _)) (pss_one (Fx.ps_raiseFx2 rfl T.x_BadLine T.g_BadLine T.b_super hr (takes_of rfl rfl rfl rfl) (Fx.pa_c (Fx.pe_fldK (K := K) rfl (pv 0) rfl) (Fx.pa_c (pe_op op_add (Fx.pe_fldK (K := K) rfl (pv 0) rfl) pe_int) pa_nil)))) pss_nil)), ?_⟩
    obtain ⟨x, p, num, ws, k, rfl, L, qt, qf⟩ := h
    obtain ⟨dx, hx⟩ := L.ins
    walk_at "rd"
    refine ⟨_, _, _, hx, T.cl_LineWords, T.n_LineWords_taken_many, _, rfl, _, _, _, hx, T.cl_LineWords, T.n_LineWords_words, _, rfl, _, rfl, _, L.row, _, rfl, ite_i (fun hk => ?_) (fun hk => ?_)⟩
    · have hkl : k < ws.length := by
        unfold ms at hk
        rw [List.length_map] at hk
        omega
      refine ⟨_, _, _, hx, T.cl_LineWords, T.n_LineWords_number, _, rfl, _, _, _, hx, T.cl_LineWords, T.n_LineWords_taken_many, _, rfl, _, rfl, fun d nd => ?_⟩
      refine qt hkl d _ (But.of (same_new nd)) nd ?_
      rw [upd_same]
      rfl
    · have hkl : k = ws.length := by
        have := L.kle
        unfold ms at hk
        rw [List.length_map] at hk
        omega
      exact qf hkl
end
section
variable {P : Program} {w : World} {K : PySem.W.Frag} {mg : Str → Option Value} {base : Heap}
theorem ok_is_decimal (S : Src K mg "is_decimal" s_is_decimal) (T : Tx P K mg) (TD : Td w K)   : Cal P w K mg base CX0 1 "is_decimal" ["word"] spIsDec := by
  refine S.cal sc_is_decimal bn_is_decimal (fun vs H Q E h => ?_) (fun f cdv A outer s H vs Q E hr h => ?_)
  · first | (obtain ⟨rfl, _⟩ := h; rfl) | (obtain ⟨_, rfl, _⟩ := h; rfl) | (obtain ⟨_, _, rfl, _⟩ := h; rfl) | (obtain ⟨_, _, _, rfl, _⟩ := h; rfl) | (obtain ⟨_, _, _, _, rfl, _⟩ := h; rfl) | (obtain ⟨_, _, _, _, _, rfl, _⟩ := h; rfl) | (obtain ⟨_, _, _, _, _, _, rfl, _⟩ := h; rfl) | (obtain ⟨_, _, _, _, _, _, _, rfl, _⟩ := h; rfl) | (obtain ⟨_, _, _, _, _, _, _, _, rfl, _⟩ := h; rfl) | (obtain ⟨_, _, _, _, _, _, _, _, _, rfl, _⟩ := h; rfl) | (obtain ⟨_, _, _, _, _, _, _, _, _, _, rfl, _⟩ := h; rfl) | (obtain ⟨_, _, _, _, _, _, _, _, _, _, _, rfl, _⟩ := h; rfl) | (obtain ⟨_, _, _, _, _, _, _, _, _, _, _, _, rfl, _⟩ := h; rfl)
  · skip
    refine ⟨_, (pss_cons (ps_if (PW.pt (pw_or (pt_cmpR op_isNon (pv 0) pe_non (nomark _)) (pw_or (pt_not (pt_chain op_le op_le pe_int (Fx.pe_cB Fx.len_S T.b_len (by decide +kernel) (Fx.pa_c (pv 0) pa_nil)) (Fx.pe_cst T.c_LONGEST_INTEGER))) (pw_or1 (PW.pt (pw_and (pt_cmpR op_eq (pe_ix Fx.ix_S (pv 0) pe_int (fun _ _ => rfl)) pe_str (nomark _)) (pw_and1 (pt_cmpR op_ne (pv 0) pe_str (nomark _))))))))) (pss_one (ps_ret pe_bl)) pss_nil)
        (pss_one (ps_ret (Fx.pe_cB (Fx.all_L rfl) T.b_all (by decide +kernel) (Fx.pa_c (pe_lc (own := [("sign", 1)]) rfl sc_is_decimal.nd (pi_str (pv 0)) (blkOk_by (N := N_is_decimal) (sc := defScope s_is_decimal) (by decide +kernel)) (fun _ _ _ _ _ => (pg_name (i := 1) sc_is_decimal.nd rfl (Or.inl rfl))) (fun _ _ _ _ _ => pts_nil) (fun _ _ _ _ _ => (pe_cmpR op_in_sign (pv 1) (Fx.pe_cst T.c_DIGITS) rfl))) pa_nil))))), ?_⟩
    obtain ⟨o, rfl, hz, q⟩ := h
    cases o with
    | none =>
      refine seqI fun K1 k1 => ?_
      walk_at "rd"
      exact Fx.ifT rfl (q H (Same.refl H))
    | some z =>
      have lz : z.cps.toList.length = z.length := Array.length_toList
      have hz1 := hz z rfl
      have bad : isDec z = false → Q (.bl false) H := fun e => by
        have := q H (Same.refl H)
        rw [show ((some z : Option Str).map isDec).getD false = isDec z from rfl, e] at this
        exact this
      dsimp only [optV]
      refine seqI fun K1 k1 => ?_
      walk_at "rd"
      refine ⟨Nat.le_trans hz1 (by decide), ite_i (fun h1 => ite_i (fun h2 => ?_) (fun h2 => ?_)) (fun h1 => ?_)⟩
      · refine ⟨Nat.le_trans hz1 (by decide), ?_⟩
        obtain ⟨c0, r0, e0⟩ : ∃ c r, z.cps.toList = c :: r := by
          cases e : z.cps.toList with
          | nil => rw [e] at lz; rw [← lz] at h1; exact absurd h1 (by decide)
          | cons c r => exact ⟨c, r, rfl⟩
        have dg : isDec z = ((z.cps.toList.map fun c => decide (48 ≤ c ∧ c ≤ 57)).all id && (!decide (c0 = 48) || decide (z = "0"))) := by
          unfold isDec
          rw [decide_eq_true (by omega : 1 ≤ z.length ∧ z.length ≤ 5), Bool.true_and, e0, List.all_map]
          simp
        have cont : (c0 = 48 → z = "0") → K1 [some (.str z), none] H := fun hc => by
          refine k1 _ _ ?_
          clear k1
          walk_at "rd"
          refine ⟨.str z, rfl, z, rfl, fun D nD => ?_⟩
          refine lc_S (z := z) (fun i H2 => H2 = upd H D (.lst (((z.cps.toList.take i).map fun c => decide (48 ≤ c ∧ c ≤ 57)).map V.bl))) rfl ?_ ?_
          · rintro i c H2 hc2 rfl
            refine ⟨rfl, ?_⟩
            walk_at "rd"
            refine ⟨c, rfl, ?_, ?_⟩
            · rw [List.length_map, List.length_map, List.length_take]
              exact Nat.lt_of_lt_of_le (by omega : _ < 2000) (by decide)
            · rw [upd_upd, List.take_add_one, hc2]
              have ed : decide (c ∈ ("0123456789" : Str).cps.toList) = decide (48 ≤ c ∧ c ≤ 57) := by
                rw [show ("0123456789" : Str).cps.toList = [48, 49, 50, 51, 52, 53, 54, 55, 56, 57] by decide +kernel]
                refine decide_eq_decide.mpr ⟨fun h => ?_, fun h => ?_⟩
                · simp only [List.mem_cons, List.not_mem_nil, or_false] at h
                  omega
                · simp only [List.mem_cons, List.not_mem_nil, or_false]
                  omega
              rw [ed]
              simp
          · rintro H2 rfl
            refine ⟨D, rfl, _, upd_same, ?_⟩
            rw [List.take_length]
            have hb : (!decide (c0 = 48) || decide (z = "0")) = true := by
              by_cases e : c0 = 48
              · rw [decide_eq_true (hc e), Bool.or_true]
              · rw [decide_eq_false e]
                rfl
            have key : ((z.cps.toList.map fun c => decide (48 ≤ c ∧ c ≤ 57)).all id) = isDec z := by rw [dg, hb, Bool.and_true]
            rw [key]
            exact q _ (same_new nD)
        refine ⟨c0, by rw [e0]; exact Fx.at0, ite_i (fun h3 => ite_i (fun h4 => cont fun _ => h4) (fun h4 => bad ?_)) (fun h3 => cont fun e => absurd (by rw [e]; decide +kernel) h3)⟩
        have e48 : c0 = 48 := by
          have := congrArg (fun s : Str => s.cps.toList) h3
          have e2 : ("0" : Str).cps.toList = [48] := by decide +kernel
          simp only [e2] at this
          exact (List.cons.inj this).1
        rw [dg, decide_eq_true e48, decide_eq_false h4, Bool.not_true, Bool.or_self, Bool.and_false]
      · refine bad ?_
        unfold isDec
        rw [decide_eq_false (by omega : ¬ (1 ≤ z.length ∧ z.length ≤ 5)), Bool.false_and]
      · refine bad ?_
        unfold isDec
        rw [decide_eq_false (by omega : ¬ (1 ≤ z.length ∧ z.length ≤ 5)), Bool.false_and]
end
section
variable {P : Program} {w : World} {K : PySem.W.Frag} {mg : Str → Option Value} {base : Heap}
theorem ok_LineWords_M_take_integer {f0 : Addr} {fd : FuncData} (F : FunD K "take_integer" "LineWords.take_integer" (defArgs s_LineWords_M_take_integer) (defBody s_LineWords_M_take_integer) (defScope s_LineWords_M_take_integer) [] [] f0 fd) (M : Meth K (He.ga K "LineWords") "take_integer" f0) (T : Tx P K mg) (TD : Td w K) (C_LineWords_M_seen : CalM P w K mg base CX0 1 (He.ga K "LineWords") "seen" ["self"] (spSeen K)) (C_is_decimal : Cal P w K mg base CX0 1 "is_decimal" ["word"] spIsDec) (C_LineWords_M_take : CalM P w K mg base (L2.CX P w) 3 (He.ga K "LineWords") "take" ["self", "good"] (spTake K))  : CalM P w K mg base (L2.CX P w) 4 (He.ga K "LineWords") "take_integer" ["self", "low", "high"] (spTakeI K) := by
  refine ⟨f0, fd, M, F.bindsN bn_LineWords_M_take_integer, okX F sc_LineWords_M_take_integer (fun vs H Q E h => ?_) (fun f cdv A outer s H vs Q E hr h => ?_)⟩
  · first | (obtain ⟨rfl, _⟩ := h; rfl) | (obtain ⟨_, rfl, _⟩ := h; rfl) | (obtain ⟨_, _, rfl, _⟩ := h; rfl) | (obtain ⟨_, _, _, rfl, _⟩ := h; rfl) | (obtain ⟨_, _, _, _, rfl, _⟩ := h; rfl) | (obtain ⟨_, _, _, _, _, rfl, _⟩ := h; rfl) | (obtain ⟨_, _, _, _, _, _, rfl, _⟩ := h; rfl) | (obtain ⟨_, _, _, _, _, _, _, rfl, _⟩ := h; rfl) | (obtain ⟨_, _, _, _, _, _, _, _, rfl, _⟩ := h; rfl) | (obtain ⟨_, _, _, _, _, _, _, _, _, rfl, _⟩ := h; rfl) | (obtain ⟨_, _, _, _, _, _, _, _, _, _, rfl, _⟩ := h; rfl) | (obtain ⟨_, _, _, _, _, _, _, _, _, _, _, rfl, _⟩ := h; rfl) | (obtain ⟨_, _, _, _, _, _, _, _, _, _, _, _, rfl, _⟩ := h; rfl)
  · skip
    obtain ⟨f_LineWords_M_seen, fd_LineWords_M_seen, m_LineWords_M_seen, b_LineWords_M_seen, G_LineWords_M_seen⟩ := C_LineWords_M_seen.ex
    obtain ⟨f_LineWords_M_take, fd_LineWords_M_take, m_LineWords_M_take, b_LineWords_M_take, G_LineWords_M_take⟩ := C_LineWords_M_take.ex
    refine ⟨_, (pss_cons (ps_set (i := 3) sc_LineWords_M_take_integer.nd rfl (Or.inl rfl) (pe_meth0 (pv 0) T.cl_LineWords m_LineWords_M_seen G_LineWords_M_seen (hr.mono (by decide)) b_LineWords_M_seen .nil pass0))
        (pss_one (ps_ret (Fx.pe_cTy call_int_str T.b_int (by decide +kernel) (Fx.pa_c (pe_meth (pv 0) T.cl_LineWords m_LineWords_M_take G_LineWords_M_take (hr.mono (by decide)) b_LineWords_M_take .nil (passes_call (takes_of rfl rfl rfl rfl) (fun _ _ _ _ z => z)) (Fx.pa_c (pe_and (Fx.pe_cal C_is_decimal (hr.mono (by decide)) pass0 (Fx.pa_c (pv 3) pa_nil)) (pe_one (pe_chain op_le op_le (pv 1) (Fx.pe_cTy call_int_str T.b_int (by decide +kernel) (Fx.pa_c (pv 3) pa_nil)) (pv 2)))) pa_nil)) pa_nil))))), ?_⟩
    obtain ⟨x, p, num, ws, k, lo, hi, rfl, L, wo, qt, qf⟩ := h
    obtain ⟨dx, hx⟩ := L.ins
    refine seqI fun K1 k1 => ?_
    walk_at "rd"
    refine ⟨_, _, hx, rfl, x, p, num, ws, k, rfl, L, ?_⟩
    refine k1 _ _ ?_
    clear k1
    walk_at "rd"
    refine ⟨_, _, hx, rfl, ws[k]?, rfl, opt_ok wo, fun H1 s1 => ⟨_, rfl, ?_⟩⟩
    cases e : ws[k]? with
    | none =>
      rw [e] at qf
      exact Fx.ifF (by decide) (tk_bad L s1 (qf rfl))
    | some w =>
      rw [e] at qf qt
      have qt2 := fun hh => qt (.int (valD w : Nat)) (show (if isDec w = true ∧ lo ≤ valD w ∧ valD w ≤ hi then some (PyData.int (valD w : Nat)) else none) = _ from if_pos hh)
      have qf2 := fun hh => qf (show (if isDec w = true ∧ lo ≤ valD w ∧ valD w ≤ hi then some (PyData.int (valD w : Nat)) else none) = _ from if_neg hh)
      show if isDec w = true then _ else _
      refine ite_i (fun hd => ?_) (fun hd => tk_bad L s1 (qf2 fun g => hd g.1))
      have l5 := (dec_parts hd).1
      refine ⟨w, rfl, _, int_dec hd, by omega, ite_i (fun h1 => ?_) (fun h1 => tk_bad L s1 (qf2 fun g => h1 (by omega)))⟩
      by_cases h2 : valD w ≤ hi
      · rw [decide_eq_true (by omega : ((valD w : Nat) : Int) ≤ (hi : Nat))]
        exact tk_good L s1 e fun H' b L' => ⟨w, rfl, _, int_dec hd, by omega, qt2 ⟨hd, by omega, h2⟩ H' b L'⟩
      · rw [decide_eq_false (by omega : ¬ ((valD w : Nat) : Int) ≤ (hi : Nat))]
        exact tk_bad L s1 (qf2 fun g => h2 g.2.2)
end
section
variable {P : Program} {w : World} {K : PySem.W.Frag} {mg : Str → Option Value} {base : Heap}
theorem ok_are_params (S : Src K mg "are_params" s_are_params) (T : Tx P K mg) (TD : Td w K)   : Cal P w K mg base CX0 1 "are_params" ["thing"] spAreParams := by
  refine S.cal sc_are_params bn_are_params (fun vs H Q E h => ?_) (fun f cdv A outer s H vs Q E hr h => ?_)
  · first | (obtain ⟨rfl, _⟩ := h; rfl) | (obtain ⟨_, rfl, _⟩ := h; rfl) | (obtain ⟨_, _, rfl, _⟩ := h; rfl) | (obtain ⟨_, _, _, rfl, _⟩ := h; rfl) | (obtain ⟨_, _, _, _, rfl, _⟩ := h; rfl) | (obtain ⟨_, _, _, _, _, rfl, _⟩ := h; rfl) | (obtain ⟨_, _, _, _, _, _, rfl, _⟩ := h; rfl) | (obtain ⟨_, _, _, _, _, _, _, rfl, _⟩ := h; rfl) | (obtain ⟨_, _, _, _, _, _, _, _, rfl, _⟩ := h; rfl) | (obtain ⟨_, _, _, _, _, _, _, _, _, rfl, _⟩ := h; rfl) | (obtain ⟨_, _, _, _, _, _, _, _, _, _, rfl, _⟩ := h; rfl) | (obtain ⟨_, _, _, _, _, _, _, _, _, _, _, rfl, _⟩ := h; rfl) | (obtain ⟨_, _, _, _, _, _, _, _, _, _, _, _, rfl, _⟩ := h; rfl)
  · skip
    refine ⟨_, (pss_cons (ps_if (PW.pt (pw_or (pt_not (pt_val (Fx.pe_cB Fx.is_B T.b_isinstance (by decide +kernel) (Fx.pa_c (pv 0) (Fx.pa_c (pe_bltn (v := .ty "str") (by rfl) T.b_str (by decide +kernel) rfl) pa_nil))))) (pw_or1 (pt_cmpR op_gt (Fx.pe_cB Fx.len_S T.b_len (by decide +kernel) (Fx.pa_c (pv 0) pa_nil)) pe_int (nomark _))))) (pss_one (ps_ret pe_bl)) pss_nil)
        (pss_cons (ps_for PassesOwn.never rfl (Fx.pi_enumS rfl T.b_enumerate (Fx.pa_c (pv 0) pa_nil)) (pg_tup rfl (pgs_cons (pg_name (i := 1) sc_are_params.nd rfl (Or.inl rfl)) (pgs_cons (pg_name (i := 2) sc_are_params.nd rfl (Or.inl rfl)) pgs_nil))) (pss_one (ps_if (PW.pt (pw_or (pt_cmpR op_notIn_sign (pv 2) (pe_op op_add_str (Fx.pe_cst T.c_NUMBERS) (Fx.pe_cst T.c_THINGS)) rfl) (pw_or1 (pt_cmpR op_in_sign (pv 2) (pe_slice sl_str (pv 0) po_none (po_some (pv 1))) rfl)))) (pss_one (ps_ret pe_bl)) pss_nil)))
        (pss_one (ps_ret pe_bl)))), ?_⟩
    obtain ⟨o, rfl, hz, q⟩ := h
    cases o with
    | none =>
      dsimp only [optV]
      refine seqI fun K1 k1 => ?_
      walk_at "rd"
      exact q H (Same.refl H)
    | some z =>
      have lz : z.cps.toList.length = z.length := Array.length_toList
      have hz1 := hz z rfl
      have qq : ∀ H', Same H H' → ∀ b, prOk z = b → Q (.bl b) H' := fun H' s b e => by
        have := q H' s
        rw [show ((some z : Option Str).map prOk).getD false = prOk z from rfl, e] at this
        exact this
      dsimp only [optV]
      refine seqI fun K1 k1 => ?_
      walk_at "rd"
      refine ⟨Nat.le_trans hz1 (by decide), ite_i (fun h1 => ?_) (fun h1 => ?_)⟩
      · refine qq H (Same.refl H) _ ?_
        unfold prOk
        rw [decide_eq_false (by omega), Bool.false_and]
      refine k1 _ _ ?_
      clear k1
      refine seqI fun K1 k1 => ?_
      walk_at "rd"
      refine ⟨.str z, rfl, z, rfl, for_enumS (z := z) (fun i σ H' => ∃ v1 v2, σ = [some (.str z), v1, v2] ∧ Same H H' ∧ (∀ c ∈ z.cps.toList.take i, c ∈ ltrN ++ ltrX) ∧ (z.cps.toList.take i).Nodup) ⟨none, none, rfl, Same.refl H, (fun c h => by cases h), List.nodup_nil⟩ ?_ ?_⟩
      · rintro i c T' σ H' hc ⟨v1, v2, rfl, sH, ha, hn⟩ nT
        have sT := same_new (o := .tup [.int (i : Nat), .str ⟨#[c]⟩]) nT
        have hcl : z.cps.toList[i]? = some c := by rw [Array.getElem?_toList]; exact hc
        have tk : z.cps.toList.take (i + 1) = z.cps.toList.take i ++ [c] := by rw [List.take_add_one, hcl]; rfl
        have el : ("abcd" ++ "xyz" : Str).cps.toList = ltrN ++ ltrX := by decide +kernel
        have bad : ¬ ((∀ c ∈ z.cps.toList.take (i + 1), c ∈ ltrN ++ ltrX) ∧ (z.cps.toList.take (i + 1)).Nodup) → prOk z = false := fun hb => by
          cases e : prOk z with
          | false => rfl
          | true =>
            unfold prOk at e
            simp only [Bool.and_eq_true, List.all_eq_true, decide_eq_true_eq] at e
            exact absurd ⟨fun c hc => e.2.1 c (List.mem_of_mem_take hc), e.2.2.sublist (List.take_sublist _ _)⟩ hb
        refine ⟨T', _, rfl, .inl (.inl upd_same), rfl, _, _, rfl, _, _, rfl, rfl, ?_⟩
        walk_at "rd"
        refine ⟨by decide +kernel, c, rfl, ?_⟩
        rw [el]
        refine ite_i (fun m1 => ⟨Nat.le_trans hz1 (by decide), c, rfl, ?_⟩) (fun m1 => qq _ (sH.trans sT) _ (bad fun g => m1 (g.1 c (by rw [tk]; exact List.mem_append_right _ List.mem_cons_self))))
        have ec := cutS_hi z i
        rw [ec]
        refine ite_i (fun m2 => qq _ (sH.trans sT) _ (bad fun g => ?_)) (fun m2 => ⟨sH.trans sT, fun d hd => ?_, ?_⟩)
        · have := g.2
          rw [tk, List.nodup_append] at this
          exact this.2.2 c m2 c List.mem_cons_self rfl
        · rw [tk] at hd
          rcases List.mem_append.mp hd with hd | hd
          · exact ha d hd
          · rw [List.mem_singleton.mp hd]
            exact m1
        · rw [tk, List.nodup_append]
          refine ⟨hn, List.pairwise_singleton _ _, fun a hm b hb => ?_⟩
          rw [List.mem_singleton.mp hb]
          exact fun e => m2 (e ▸ hm)
      · rintro σ H' ⟨v1, v2, rfl, sH, ha, hn⟩
        refine k1 _ _ ?_
        clear k1
        walk_at "rd"
        rw [List.take_of_length_le (by rw [lz]; exact Nat.le_refl _)] at ha hn
        refine qq H' sH _ ?_
        unfold prOk
        simp only [Bool.and_eq_true, List.all_eq_true, decide_eq_true_eq]
        exact ⟨by omega, ha, hn⟩
end
section
variable {P : Program} {w : World} {K : PySem.W.Frag} {mg : Str → Option Value} {base : Heap}
theorem ok_LineWords_M_take_params {f0 : Addr} {fd : FuncData} (F : FunD K "take_params" "LineWords.take_params" (defArgs s_LineWords_M_take_params) (defBody s_LineWords_M_take_params) (defScope s_LineWords_M_take_params) [] [] f0 fd) (M : Meth K (He.ga K "LineWords") "take_params" f0) (T : Tx P K mg) (TD : Td w K) (C_LineWords_M_seen : CalM P w K mg base CX0 1 (He.ga K "LineWords") "seen" ["self"] (spSeen K)) (C_are_params : Cal P w K mg base CX0 1 "are_params" ["thing"] spAreParams) (C_LineWords_M_take : CalM P w K mg base (L2.CX P w) 3 (He.ga K "LineWords") "take" ["self", "good"] (spTake K))  : CalM P w K mg base (L2.CX P w) 4 (He.ga K "LineWords") "take_params" ["self"] (spTakeP K) := by
  refine ⟨f0, fd, M, F.bindsN bn_LineWords_M_take_params, okX F sc_LineWords_M_take_params (fun vs H Q E h => ?_) (fun f cdv A outer s H vs Q E hr h => ?_)⟩
  · first | (obtain ⟨rfl, _⟩ := h; rfl) | (obtain ⟨_, rfl, _⟩ := h; rfl) | (obtain ⟨_, _, rfl, _⟩ := h; rfl) | (obtain ⟨_, _, _, rfl, _⟩ := h; rfl) | (obtain ⟨_, _, _, _, rfl, _⟩ := h; rfl) | (obtain ⟨_, _, _, _, _, rfl, _⟩ := h; rfl) | (obtain ⟨_, _, _, _, _, _, rfl, _⟩ := h; rfl) | (obtain ⟨_, _, _, _, _, _, _, rfl, _⟩ := h; rfl) | (obtain ⟨_, _, _, _, _, _, _, _, rfl, _⟩ := h; rfl) | (obtain ⟨_, _, _, _, _, _, _, _, _, rfl, _⟩ := h; rfl) | (obtain ⟨_, _, _, _, _, _, _, _, _, _, rfl, _⟩ := h; rfl) | (obtain ⟨_, _, _, _, _, _, _, _, _, _, _, rfl, _⟩ := h; rfl) | (obtain ⟨_, _, _, _, _, _, _, _, _, _, _, _, rfl, _⟩ := h; rfl)
  · skip
    obtain ⟨f_LineWords_M_seen, fd_LineWords_M_seen, m_LineWords_M_seen, b_LineWords_M_seen, G_LineWords_M_seen⟩ := C_LineWords_M_seen.ex
    obtain ⟨f_LineWords_M_take, fd_LineWords_M_take, m_LineWords_M_take, b_LineWords_M_take, G_LineWords_M_take⟩ := C_LineWords_M_take.ex
    refine ⟨_, (pss_cons (ps_set (i := 1) sc_LineWords_M_take_params.nd rfl (Or.inl rfl) (pe_meth0 (pv 0) T.cl_LineWords m_LineWords_M_seen G_LineWords_M_seen (hr.mono (by decide)) b_LineWords_M_seen .nil pass0))
        (pss_cons (ps_set (i := 2) sc_LineWords_M_take_params.nd rfl (Or.inl rfl) (pe_meth (pv 0) T.cl_LineWords m_LineWords_M_take G_LineWords_M_take (hr.mono (by decide)) b_LineWords_M_take .nil (passes_call (takes_of rfl rfl rfl rfl) (fun _ _ _ _ z => z)) (Fx.pa_c (pe_or (pe_cmpR op_eq (pv 1) pe_str (nomark _)) (pe_one (pe_and (pe_cmpR op_ne (pv 1) pe_str (nomark _)) (pe_one (Fx.pe_cal C_are_params (hr.mono (by decide)) pass0 (Fx.pa_c (pv 1) pa_nil)))))) pa_nil)))
        (pss_cons (ps_if (pt_cmpR op_eq (pv 2) pe_str (nomark _)) (pss_one (ps_ret pe_str)) pss_nil)
        (pss_one (ps_ret (pv 2)))))), ?_⟩
    obtain ⟨x, p, num, ws, k, rfl, L, wo, qt, qf⟩ := h
    obtain ⟨dx, hx⟩ := L.ins
    have rk : rngK "params" = none := by decide +kernel
    refine seqI fun K1 k1 => ?_
    walk_at "rd"
    refine ⟨_, _, hx, rfl, x, p, num, ws, k, rfl, L, ?_⟩
    refine k1 _ _ ?_
    clear k1
    cases e : ws[k]? with
    | none =>
      dsimp only [optV]
      rw [e] at qf
      refine seqI fun K1 k1 => ?_
      walk_at "rd"
      refine ⟨_, _, hx, rfl, ⟨none, rfl, (fun z h => by cases h), fun H1 s1 => tk_bad L s1 (qf rfl)⟩⟩
    | some w =>
      dsimp only [optV]
      rw [e] at qf qt
      have tsk : takeS "params" w = if w = "-" then some (.str "") else if w ≠ "" ∧ prOk w = true then some (.str w) else none := by
        unfold takeS
        rw [rk]
        dsimp only
        rw [if_pos rfl]
      have tk2 : (some w : Option Str).bind (takeS "params") = takeS "params" w := rfl
      rw [tk2, tsk] at qt qf
      have hwl := opt_ok wo w e
      refine seqI fun K1 k1 => ?_
      walk_at "rd"
      refine ⟨_, _, hx, rfl, ite_i (fun h1 => ?_) (fun h1 => ite_i (fun h2 => ?_) (fun h2 => ?_))⟩
      · rw [if_pos h1] at qt
        refine tk_good L (Same.refl H) e fun H' b L' => ?_
        refine k1 _ _ ?_
        clear k1
        walk_at "rd"
        exact Fx.ifT h1 (qt _ rfl H' b L')
      · rw [if_neg h1, if_neg (fun g => g.1 h2)] at qf
        exact tk_bad L (Same.refl H) (qf rfl)
      · refine ⟨some w, rfl, (fun z h => by cases h; exact hwl), fun H1 s1 => ?_⟩
        show spTake K [.ref x, .bl (prOk w)] H1 _ E
        cases hp : prOk w with
        | false =>
          rw [if_neg h1, if_neg (fun g => by rw [hp] at g; cases g.2)] at qf
          exact tk_bad L s1 (qf rfl)
        | true =>
          rw [if_neg h1, if_pos ⟨h2, hp⟩] at qt
          refine tk_good L s1 e fun H' b L' => ?_
          refine k1 _ _ ?_
          clear k1
          walk_at "rd"
          exact Fx.ifF h1 (qt _ rfl H' b L')
end
section
variable {P : Program} {w : World} {K : PySem.W.Frag} {mg : Str → Option Value} {base : Heap}
theorem ok_is_name (S : Src K mg "is_name" s_is_name) (T : Tx P K mg) (TD : Td w K)   : Cal P w K mg base CX0 1 "is_name" ["thing"] spIsName := by
  refine S.cal sc_is_name bn_is_name (fun vs H Q E h => ?_) (fun f cdv A outer s H vs Q E hr h => ?_)
  · first | (obtain ⟨rfl, _⟩ := h; rfl) | (obtain ⟨_, rfl, _⟩ := h; rfl) | (obtain ⟨_, _, rfl, _⟩ := h; rfl) | (obtain ⟨_, _, _, rfl, _⟩ := h; rfl) | (obtain ⟨_, _, _, _, rfl, _⟩ := h; rfl) | (obtain ⟨_, _, _, _, _, rfl, _⟩ := h; rfl) | (obtain ⟨_, _, _, _, _, _, rfl, _⟩ := h; rfl) | (obtain ⟨_, _, _, _, _, _, _, rfl, _⟩ := h; rfl) | (obtain ⟨_, _, _, _, _, _, _, _, rfl, _⟩ := h; rfl) | (obtain ⟨_, _, _, _, _, _, _, _, _, rfl, _⟩ := h; rfl) | (obtain ⟨_, _, _, _, _, _, _, _, _, _, rfl, _⟩ := h; rfl) | (obtain ⟨_, _, _, _, _, _, _, _, _, _, _, rfl, _⟩ := h; rfl) | (obtain ⟨_, _, _, _, _, _, _, _, _, _, _, _, rfl, _⟩ := h; rfl)
  · skip
    refine ⟨_, (pss_cons (ps_if (PW.pt (pw_or (pt_not (pt_val (Fx.pe_cB Fx.is_B T.b_isinstance (by decide +kernel) (Fx.pa_c (pv 0) (Fx.pa_c (pe_bltn (v := .ty "str") (by rfl) T.b_str (by decide +kernel) rfl) pa_nil))))) (pw_or (pt_not (pt_chain op_le op_le pe_int (Fx.pe_cB Fx.len_S T.b_len (by decide +kernel) (Fx.pa_c (pv 0) pa_nil)) pe_int)) (pw_or1 (pt_cmpR op_in_seq (pv 0) (Fx.pe_cst T.c_RESERVED) rfl))))) (pss_one (ps_ret pe_bl)) pss_nil)
        (pss_one (ps_ret (Fx.pe_cB (Fx.all_L rfl) T.b_all (by decide +kernel) (Fx.pa_c (pe_lc (own := [("sign", 1)]) rfl sc_is_name.nd (pi_str (pv 0)) (blkOk_by (N := N_is_name) (sc := defScope s_is_name) (by decide +kernel)) (fun _ _ _ _ _ => (pg_name (i := 1) sc_is_name.nd rfl (Or.inl rfl))) (fun _ _ _ _ _ => pts_nil) (fun _ _ _ _ _ => (pe_cmpR op_in_sign (pv 1) (Fx.pe_cst T.c_LETTERS) rfl))) pa_nil))))), ?_⟩
    obtain ⟨z, rfl, hz, q⟩ := h
    have lz : z.cps.toList.length = z.length := Array.length_toList
    refine seqI fun K1 k1 => ?_
    walk_at "rd"
    have bad : ∀ H', Same H H' → isNm z = false → Q (.bl false) H' := fun H' s e => by
      have := q H' s
      rw [e] at this
      exact this
    refine ⟨Nat.le_trans hz (by decide), ite_i (fun h1 => ite_i (fun h2 => ?_) (fun h2 => ?_)) (fun h1 => ?_)⟩
    · obtain ⟨ar, e1, hT⟩ := tupV_ok T.t_RS
      cases e1
      refine ⟨_, _, rfl, .inr (hT H), rfl, flat_ms resW, _, rfl, ?_⟩
      rw [show (if false = true then !inV (.str z) (List.map V.str resW) else inV (.str z) (List.map V.str resW)) = inV (.str z) (List.map V.str resW) from rfl, inV_mV]
      refine ite_i (fun h3 => ?_) (fun h3 => ?_)
      · refine bad H (Same.refl H) ?_
        unfold isNm
        rw [decide_eq_true_eq] at h3
        rw [decide_eq_true h3, Bool.not_true, Bool.false_and, Bool.and_false]
      · refine k1 _ _ ?_
        clear k1
        walk_at "rd"
        refine ⟨.str z, rfl, z, rfl, fun D nD => ?_⟩
        refine lc_S (z := z) (fun i H2 => H2 = upd H D (.lst (((z.cps.toList.take i).map fun c => decide (c ∈ lets26.cps.toList)).map V.bl))) rfl ?_ ?_
        · rintro i c H2 hc rfl
          refine ⟨rfl, ?_⟩
          walk_at "rd"
          refine ⟨c, rfl, ?_, ?_⟩
          · rw [List.length_map, List.length_map, List.length_take]
            exact Nat.lt_of_lt_of_le (by omega : _ < 2000) (by decide)
          · rw [upd_upd, List.take_add_one, hc]
            simp [lets26]
        · rintro H2 rfl
          refine ⟨D, rfl, _, upd_same, ?_⟩
          rw [List.take_length]
          rw [decide_eq_true_eq] at h3
          have e1 : ((z.cps.toList.map fun c => decide (c ∈ lets26.cps.toList)).all id) = isNm z := by
            unfold isNm
            rw [decide_eq_true (by omega : 1 ≤ z.length ∧ z.length ≤ 12), decide_eq_false h3, List.all_map]
            rfl
          rw [e1]
          exact q _ (same_new nD)
    · refine bad H (Same.refl H) ?_
      unfold isNm
      rw [decide_eq_false (by omega : ¬ (1 ≤ z.length ∧ z.length ≤ 12)), Bool.false_and]
    · refine bad H (Same.refl H) ?_
      unfold isNm
      rw [decide_eq_false (by omega : ¬ (1 ≤ z.length ∧ z.length ≤ 12)), Bool.false_and]
end
section
variable {P : Program} {w : World} {K : PySem.W.Frag} {mg : Str → Option Value} {base : Heap}
theorem ok_is_small (S : Src K mg "is_small" s_is_small) (T : Tx P K mg) (TD : Td w K) (C_is_name : Cal P w K mg base CX0 1 "is_name" ["thing"] spIsName)  : Cal P w K mg base CX0 2 "is_small" ["kind", "thing"] spIsSmall := by
  refine S.cal sc_is_small bn_is_small (fun vs H Q E h => ?_) (fun f cdv A outer s H vs Q E hr h => ?_)
  · first | (obtain ⟨rfl, _⟩ := h; rfl) | (obtain ⟨_, rfl, _⟩ := h; rfl) | (obtain ⟨_, _, rfl, _⟩ := h; rfl) | (obtain ⟨_, _, _, rfl, _⟩ := h; rfl) | (obtain ⟨_, _, _, _, rfl, _⟩ := h; rfl) | (obtain ⟨_, _, _, _, _, rfl, _⟩ := h; rfl) | (obtain ⟨_, _, _, _, _, _, rfl, _⟩ := h; rfl) | (obtain ⟨_, _, _, _, _, _, _, rfl, _⟩ := h; rfl) | (obtain ⟨_, _, _, _, _, _, _, _, rfl, _⟩ := h; rfl) | (obtain ⟨_, _, _, _, _, _, _, _, _, rfl, _⟩ := h; rfl) | (obtain ⟨_, _, _, _, _, _, _, _, _, _, rfl, _⟩ := h; rfl) | (obtain ⟨_, _, _, _, _, _, _, _, _, _, _, rfl, _⟩ := h; rfl) | (obtain ⟨_, _, _, _, _, _, _, _, _, _, _, _, rfl, _⟩ := h; rfl)
  · skip
    refine ⟨_, (pss_cons (ps_if (pt_cmpR (Fx.op_inKd (K := K) (w := w) rfl rfl) (pv 0) (Fx.pe_cst T.c_RANGES) rfl) (pss_one Fx.ps_dead) pss_nil)
        (pss_cons (ps_if (pt_cmpR op_eq (pv 0) pe_str (nomark _)) (pss_one Fx.ps_dead) pss_nil)
        (pss_cons (ps_if (pt_cmpR op_eq (pv 0) pe_str (nomark _)) (pss_one Fx.ps_dead) pss_nil)
        (pss_cons (ps_if (pt_cmpR op_eq (pv 0) pe_str (nomark _)) (pss_one Fx.ps_dead) pss_nil)
        (pss_one (ps_ret (pe_and (Fx.pe_cB Fx.is_B T.b_isinstance (by decide +kernel) (Fx.pa_c (pv 1) (Fx.pa_c (pe_bltn (v := .ty "str") (by rfl) T.b_str (by decide +kernel) rfl) pa_nil))) (pe_one (pe_or (pe_cmpR op_in_seq (pv 1) (pe_ix (Fx.ix_kd (K := K) (w := w) rfl rfl) (Fx.pe_cst T.c_KNOWN_NAMES) (pv 0) (fun _ _ => rfl)) rfl) (pe_one (Fx.pe_cal C_is_name (hr.mono (by decide)) pass0 (Fx.pa_c (pv 1) pa_nil)))))))))))), ?_⟩
    obtain ⟨k, o, rfl, hk, hz, q⟩ := h
    have nk : k ∉ rangeK ∧ k ≠ "saying" ∧ k ≠ "params" ∧ k ≠ "letter" := by
      have := List.all_eq_true.mp (show smKinds.all (fun k => decide (k ∉ rangeK ∧ k ≠ "saying" ∧ k ≠ "params" ∧ k ≠ "letter")) = true by decide +kernel) k hk
      exact of_decide_eq_true this
    have ik : k ∈ knownT.map (·.1) := by
      have := List.all_eq_true.mp (show smKinds.all (fun k => decide (k ∈ knownT.map (·.1))) = true by decide +kernel) k hk
      exact of_decide_eq_true this
    walk_at "rd"
    refine ⟨_, TD.RANGES, Fx.ifF nk.1 (Fx.ifF nk.2.1 (Fx.ifF nk.2.2.1 (Fx.ifF nk.2.2.2 ?_)))⟩
    cases o with
    | none =>
      refine ⟨_, tyv_non, _, kb_none_str, ?_⟩
      rw [if_neg Bool.false_ne_true]
      exact q H (Same.refl H)
    | some z =>
      refine ⟨_, tyv_str, _, kb_str_str, ?_⟩
      rw [if_pos rfl]
      obtain ⟨⟨k2, ls⟩, hm, rfl⟩ := List.mem_map.mp ik
      obtain ⟨ar, e1, hT⟩ := kdB_ok T.t_KN (List.mem_map.mpr ⟨(k2, ls), hm, rfl⟩)
      have ek : known k2 = ls := by
        have := List.all_eq_true.mp (show knownT.all (fun p => decide (known p.1 = p.2)) = true by decide +kernel) _ hm
        exact of_decide_eq_true this
      refine ⟨.ref ar, TD.KNOWN_NAMES.dct (v := .ref ar) e1 rfl, _, _, rfl, .inr (hT H), rfl, flat_ms ls, _, rfl, ?_⟩
      rw [show (if false = true then !inV (optV (some z)) (List.map V.str ls) else inV (optV (some z)) (List.map V.str ls)) = inV (.str z) (List.map V.str ls) from rfl, inV_mV]
      have hok : okS k2 z = (decide (z ∈ ls) || isNm z) := by
        unfold okS
        rw [ek]
      refine ite_i (fun h3 => ?_) (fun h3 => ?_)
      · have := q H (Same.refl H)
        rw [show ((some z : Option Str).map (okS k2)).getD false = okS k2 z from rfl, hok, h3, Bool.true_or] at this
        exact this
      · rw [Bool.not_eq_true] at h3
        refine ⟨z, rfl, hz z rfl, fun H' s => ?_⟩
        have := q H' s
        rw [show ((some z : Option Str).map (okS k2)).getD false = okS k2 z from rfl, hok, h3, Bool.false_or] at this
        exact this
end
section
variable {P : Program} {w : World} {K : PySem.W.Frag} {mg : Str → Option Value} {base : Heap}
theorem ok_LineWords_M_take_small {f0 : Addr} {fd : FuncData} (F : FunD K "take_small" "LineWords.take_small" (defArgs s_LineWords_M_take_small) (defBody s_LineWords_M_take_small) (defScope s_LineWords_M_take_small) [] [] f0 fd) (M : Meth K (He.ga K "LineWords") "take_small" f0) (T : Tx P K mg) (TD : Td w K) (C_LineWords_M_seen : CalM P w K mg base CX0 1 (He.ga K "LineWords") "seen" ["self"] (spSeen K)) (C_LineWords_M_take_integer : CalM P w K mg base (L2.CX P w) 4 (He.ga K "LineWords") "take_integer" ["self", "low", "high"] (spTakeI K)) (C_LineWords_M_take_params : CalM P w K mg base (L2.CX P w) 4 (He.ga K "LineWords") "take_params" ["self"] (spTakeP K)) (C_is_small : Cal P w K mg base CX0 2 "is_small" ["kind", "thing"] spIsSmall) (C_LineWords_M_take : CalM P w K mg base (L2.CX P w) 3 (He.ga K "LineWords") "take" ["self", "good"] (spTake K))  : CalM P w K mg base (L2.CX P w) 5 (He.ga K "LineWords") "take_small" ["self", "kind"] (spTakeS K) := by
  refine ⟨f0, fd, M, F.bindsN bn_LineWords_M_take_small, okX F sc_LineWords_M_take_small (fun vs H Q E h => ?_) (fun f cdv A outer s H vs Q E hr h => ?_)⟩
  · first | (obtain ⟨rfl, _⟩ := h; rfl) | (obtain ⟨_, rfl, _⟩ := h; rfl) | (obtain ⟨_, _, rfl, _⟩ := h; rfl) | (obtain ⟨_, _, _, rfl, _⟩ := h; rfl) | (obtain ⟨_, _, _, _, rfl, _⟩ := h; rfl) | (obtain ⟨_, _, _, _, _, rfl, _⟩ := h; rfl) | (obtain ⟨_, _, _, _, _, _, rfl, _⟩ := h; rfl) | (obtain ⟨_, _, _, _, _, _, _, rfl, _⟩ := h; rfl) | (obtain ⟨_, _, _, _, _, _, _, _, rfl, _⟩ := h; rfl) | (obtain ⟨_, _, _, _, _, _, _, _, _, rfl, _⟩ := h; rfl) | (obtain ⟨_, _, _, _, _, _, _, _, _, _, rfl, _⟩ := h; rfl) | (obtain ⟨_, _, _, _, _, _, _, _, _, _, _, rfl, _⟩ := h; rfl) | (obtain ⟨_, _, _, _, _, _, _, _, _, _, _, _, rfl, _⟩ := h; rfl)
  · skip
    obtain ⟨f_LineWords_M_seen, fd_LineWords_M_seen, m_LineWords_M_seen, b_LineWords_M_seen, G_LineWords_M_seen⟩ := C_LineWords_M_seen.ex
    obtain ⟨f_LineWords_M_take_integer, fd_LineWords_M_take_integer, m_LineWords_M_take_integer, b_LineWords_M_take_integer, G_LineWords_M_take_integer⟩ := C_LineWords_M_take_integer.ex
    obtain ⟨f_LineWords_M_take_params, fd_LineWords_M_take_params, m_LineWords_M_take_params, b_LineWords_M_take_params, G_LineWords_M_take_params⟩ := C_LineWords_M_take_params.ex
    obtain ⟨f_LineWords_M_take, fd_LineWords_M_take, m_LineWords_M_take, b_LineWords_M_take, G_LineWords_M_take⟩ := C_LineWords_M_take.ex
    refine ⟨_, (pss_cons (ps_set (i := 2) sc_LineWords_M_take_small.nd rfl (Or.inl rfl) (pe_meth0 (pv 0) T.cl_LineWords m_LineWords_M_seen G_LineWords_M_seen (hr.mono (by decide)) b_LineWords_M_seen .nil pass0))
        (pss_cons (ps_if (pt_cmpR (Fx.op_inKd (K := K) (w := w) rfl rfl) (pv 1) (Fx.pe_cst T.c_RANGES) rfl) (pss_one (ps_ret (pe_meth (pv 0) T.cl_LineWords m_LineWords_M_take_integer G_LineWords_M_take_integer (hr.mono (by decide)) b_LineWords_M_take_integer .nil (passes_call (takes_of rfl rfl rfl rfl) (fun _ _ _ _ z => z)) (Fx.pa_c (pe_ix ix_tup (pe_ix (Fx.ix_kd (K := K) (w := w) rfl rfl) (Fx.pe_cst T.c_RANGES) (pv 1) (fun _ _ => rfl)) pe_int (fun _ _ => rfl)) (Fx.pa_c (pe_ix ix_tup (pe_ix (Fx.ix_kd (K := K) (w := w) rfl rfl) (Fx.pe_cst T.c_RANGES) (pv 1) (fun _ _ => rfl)) pe_int (fun _ _ => rfl)) pa_nil))))) pss_nil)
        (pss_cons (ps_if (pt_cmpR op_eq (pv 1) pe_str (nomark _)) (pss_one (ps_ret (pe_meth0 (pv 0) T.cl_LineWords m_LineWords_M_take_params G_LineWords_M_take_params (hr.mono (by decide)) b_LineWords_M_take_params .nil (passes_call (takes_of rfl rfl rfl rfl) (fun _ _ _ _ z => z))))) pss_nil)
        (pss_cons (ps_if (pt_cmpR op_eq (pv 1) pe_str (nomark _)) (pss_one Fx.ps_dead) pss_nil)
        (pss_one (ps_ret (pe_meth (pv 0) T.cl_LineWords m_LineWords_M_take G_LineWords_M_take (hr.mono (by decide)) b_LineWords_M_take .nil (passes_call (takes_of rfl rfl rfl rfl) (fun _ _ _ _ z => z)) (Fx.pa_c (Fx.pe_cal C_is_small (hr.mono (by decide)) pass0 (Fx.pa_c (pv 1) (Fx.pa_c (pv 2) pa_nil))) pa_nil)))))))), ?_⟩
    obtain ⟨x, p, num, ws, k, kd, rfl, hk, L, wo, qt, qf⟩ := h
    obtain ⟨dx, hx⟩ := L.ins
    refine seqI fun K1 k1 => ?_
    walk_at "rd"
    refine ⟨_, _, hx, rfl, x, p, num, ws, k, rfl, L, ?_⟩
    refine k1 _ _ ?_
    clear k1
    walk_at "rd"
    refine ⟨_, TD.RANGES, ?_⟩
    by_cases hr : kd ∈ rangeK
    · rw [if_pos hr]
      have key : ∃ lo hi : Nat, (kd, [V.int (lo : Nat), V.int (hi : Nat)]) ∈ rangeV ∧ rngK kd = some (lo, hi) := by
        have := List.all_eq_true.mp (show takeKinds.all (fun k => decide (k ∈ rangeK → k = "integer" ∨ k = "chances")) = true by decide +kernel) kd hk
        rcases of_decide_eq_true this hr with e | e
        · exact ⟨0, 999, by rw [e]; decide +kernel, by rw [e]; decide +kernel⟩
        · exact ⟨1, 100, by rw [e]; decide +kernel, by rw [e]; decide +kernel⟩
      obtain ⟨lo, hi, m, e⟩ := key
      obtain ⟨ar, e1, hT⟩ := kdB_ok T.t_RG m
      have tsk : takeS kd = fun w => if isDec w = true ∧ lo ≤ valD w ∧ valD w ≤ hi then some (.int (valD w : Nat)) else none := by
        funext w
        unfold takeS
        rw [e]
      rw [tsk] at qt qf
      exact ⟨_, _, hx, rfl, .ref ar, TD.RANGES.dct (v := .ref ar) e1 rfl, ar, rfl, _, hT H, _, atI_get (i := 0) rfl, .ref ar, TD.RANGES.dct (v := .ref ar) e1 rfl, ar, rfl, _, hT H, _, atI_get (i := 1) rfl, x, p, num, ws, k, lo, hi, rfl, L, wo, qt, qf⟩
    · rw [if_neg hr]
      by_cases hp : kd = "params"
      · rw [if_pos hp]
        subst hp
        exact ⟨_, _, hx, rfl, x, p, num, ws, k, rfl, L, wo, qt, qf⟩
      · have hs : kd ∈ smKinds ∧ kd ≠ "saying" := by
          have := List.all_eq_true.mp (show takeKinds.all (fun k => decide (k ∈ rangeK ∨ k = "params" ∨ (k ∈ smKinds ∧ k ≠ "saying"))) = true by decide +kernel) kd hk
          exact (of_decide_eq_true this).elim (fun z => absurd z hr) fun z => z.elim (fun z => absurd z hp) id
        refine Fx.ifF hp (Fx.ifF hs.2 ⟨_, _, hx, rfl, kd, ws[k]?, rfl, hs.1, opt_ok wo, fun H1 s1 => ?_⟩)
        have rk : rngK kd = none := by
          have := List.all_eq_true.mp (show smKinds.all (fun k => decide (rngK k = none)) = true by decide +kernel) kd hs.1
          exact of_decide_eq_true this
        have tsk : ∀ w, takeS kd w = if okS kd w = true then some (.str w) else none := fun w => by
          unfold takeS
          rw [rk]
          dsimp only
          rw [if_neg hp]
        cases e : ws[k]? with
        | none =>
          rw [e] at qf
          exact tk_bad L s1 (qf rfl)
        | some w =>
          rw [e] at qf qt
          rw [show (some w : Option Str).bind (takeS kd) = takeS kd w from rfl, tsk] at qt qf
          show spTake K [.ref x, .bl (okS kd w)] H1 _ E
          cases ho : okS kd w with
          | false =>
            rw [if_neg (by rw [ho]; decide)] at qf
            exact tk_bad L s1 (qf rfl)
          | true =>
            rw [if_pos ho] at qt
            exact tk_good L s1 e fun H' b L' => qt _ rfl H' b L'
end
section
variable {P : Program} {w : World} {K : PySem.W.Frag} {mg : Str → Option Value} {base : Heap}
theorem ok_HalfForm_MU_initU {f0 : Addr} {fd : FuncData} (F : FunD K "__init__" "HalfForm.__init__" (defArgs s_HalfForm_MU_initU) (defBody s_HalfForm_MU_initU) (defScope s_HalfForm_MU_initU) [] [] f0 fd) (M : Mk K (He.ga K "HalfForm") f0) (T : Tx P K mg) (TD : Td w K)   : CalI P w K mg base CX0 1 (He.ga K "HalfForm") ["self", "head", "dues"] (spHFI K) := by
  refine ⟨f0, fd, M, F.bindsN bn_HalfForm_MU_initU, ok0 F sc_HalfForm_MU_initU (fun vs H Q E h => ?_) (fun f cdv A outer s H vs Q E hr h => ?_)⟩
  · first | (obtain ⟨rfl, _⟩ := h; rfl) | (obtain ⟨_, rfl, _⟩ := h; rfl) | (obtain ⟨_, _, rfl, _⟩ := h; rfl) | (obtain ⟨_, _, _, rfl, _⟩ := h; rfl) | (obtain ⟨_, _, _, _, rfl, _⟩ := h; rfl) | (obtain ⟨_, _, _, _, _, rfl, _⟩ := h; rfl) | (obtain ⟨_, _, _, _, _, _, rfl, _⟩ := h; rfl) | (obtain ⟨_, _, _, _, _, _, _, rfl, _⟩ := h; rfl) | (obtain ⟨_, _, _, _, _, _, _, _, rfl, _⟩ := h; rfl) | (obtain ⟨_, _, _, _, _, _, _, _, _, rfl, _⟩ := h; rfl) | (obtain ⟨_, _, _, _, _, _, _, _, _, _, rfl, _⟩ := h; rfl) | (obtain ⟨_, _, _, _, _, _, _, _, _, _, _, rfl, _⟩ := h; rfl) | (obtain ⟨_, _, _, _, _, _, _, _, _, _, _, _, rfl, _⟩ := h; rfl)
  · skip
    refine ⟨_, (pss_cons (ps_fld (pv 0) (pv 1) rfl)
        (pss_cons (ps_fld (pv 0) (Fx.pe_cTy Fx.list_Q T.b_list (by decide +kernel) (Fx.pa_c (pv 2) pa_nil)) rfl)
        (pss_one (ps_fld (pv 0) (pe_lst pa_nil) rfl)))), ?_⟩
    obtain ⟨y, dy, p, hd, l, rfl, hy, hl, hp, q⟩ := h
    walk_at "rd"
    have np : p ≠ y := Sq_notins hp hy
    refine ⟨_, _, _, hy, T.cl_HalfForm, T.n_HalfForm_head, (show 0 < 1000 by decide), ms l, ?_, fun a na => ?_⟩
    · unfold Sq
      rw [upd_ne np]
      exact hp
    have nay : a ≠ y := fun e => by
      subst e
      rw [upd_same] at na
      cases na
    have na0 : H a = none := by rw [upd_ne nay] at na; exact na
    refine ⟨_, _, _, (upd_ne nay.symm).trans upd_same, T.cl_HalfForm, T.n_HalfForm_dues, (show 1 < 1000 by decide), by decide, fun b nb => ?_⟩
    have nby : b ≠ y := fun e => by
      subst e
      rw [upd_same] at nb
      cases nb
    have nba : b ≠ a := fun e => by
      subst e
      rw [upd_ne nay, upd_same] at nb
      cases nb
    have nb0 : H b = none := by rw [upd_ne nby, upd_ne nba, upd_ne nby] at nb; exact nb
    refine ⟨_, _, _, (upd_ne nby.symm).trans upd_same, T.cl_HalfForm, T.n_HalfForm_read_parts_now, (show 2 < 1000 by decide), q a b _ (fun c o hc e => ?_) na0 nb0 ⟨⟨dy, ?_⟩, ?_, ⟨[], ?_, .nil⟩, rfl, nba.symm⟩⟩
    · have hca : c ≠ a := fun z => by rw [z, na0] at e; cases e
      have hcb : c ≠ b := fun z => by rw [z, nb0] at e; cases e
      rw [upd_ne hc, upd_ne hcb, upd_ne hc, upd_ne hca, upd_ne hc]
      exact e
    · rw [upd_same]
      rfl
    · rw [upd_ne nay, upd_ne nba.symm, upd_ne nay, upd_same]
    · rw [upd_ne nby, upd_same]
end
section
variable {P : Program} {w : World} {K : PySem.W.Frag} {mg : Str → Option Value} {base : Heap}
theorem ok_HalfForm_M_whole {f0 : Addr} {fd : FuncData} (F : FunD K "whole" "HalfForm.whole" (defArgs s_HalfForm_M_whole) (defBody s_HalfForm_M_whole) (defScope s_HalfForm_M_whole) [] [] f0 fd) (M : Meth K (He.ga K "HalfForm") "whole" f0) (T : Tx P K mg) (TD : Td w K)   : CalM P w K mg base CX0 1 (He.ga K "HalfForm") "whole" ["self"] (spWhole K) := by
  refine ⟨f0, fd, M, F.bindsN bn_HalfForm_M_whole, ok0 F sc_HalfForm_M_whole (fun vs H Q E h => ?_) (fun f cdv A outer s H vs Q E hr h => ?_)⟩
  · first | (obtain ⟨rfl, _⟩ := h; rfl) | (obtain ⟨_, rfl, _⟩ := h; rfl) | (obtain ⟨_, _, rfl, _⟩ := h; rfl) | (obtain ⟨_, _, _, rfl, _⟩ := h; rfl) | (obtain ⟨_, _, _, _, rfl, _⟩ := h; rfl) | (obtain ⟨_, _, _, _, _, rfl, _⟩ := h; rfl) | (obtain ⟨_, _, _, _, _, _, rfl, _⟩ := h; rfl) | (obtain ⟨_, _, _, _, _, _, _, rfl, _⟩ := h; rfl) | (obtain ⟨_, _, _, _, _, _, _, _, rfl, _⟩ := h; rfl) | (obtain ⟨_, _, _, _, _, _, _, _, _, rfl, _⟩ := h; rfl) | (obtain ⟨_, _, _, _, _, _, _, _, _, _, rfl, _⟩ := h; rfl) | (obtain ⟨_, _, _, _, _, _, _, _, _, _, _, rfl, _⟩ := h; rfl) | (obtain ⟨_, _, _, _, _, _, _, _, _, _, _, _, rfl, _⟩ := h; rfl)
  · skip
    refine ⟨_, (pss_cons (ps_if (pt_cmpR op_eq (Fx.pe_fldK (K := K) rfl (pv 0) rfl) pe_str (nomark _)) (pss_one (ps_ret (pe_op op_catA (pe_op op_catA (pe_tup (Fx.pa_c pe_str pa_nil)) (Fx.pe_cTy Fx.tup_L T.b_tuple (by decide +kernel) (Fx.pa_c (pe_slice Fx.sl_L (Fx.pe_fldK (K := K) rfl (pv 0) rfl) po_none (po_some pe_int)) pa_nil))) (pe_tup (Fx.pa_c (Fx.pe_cTy Fx.tup_L T.b_tuple (by decide +kernel) (Fx.pa_c (pe_slice Fx.sl_L (Fx.pe_fldK (K := K) rfl (pv 0) rfl) (po_some pe_int) po_none) pa_nil)) pa_nil))))) pss_nil)
        (pss_one (ps_ret (pe_op op_catA (pe_tup (Fx.pa_c (Fx.pe_fldK (K := K) rfl (pv 0) rfl) pa_nil)) (Fx.pe_cTy Fx.tup_L T.b_tuple (by decide +kernel) (Fx.pa_c (Fx.pe_fldK (K := K) rfl (pv 0) rfl) pa_nil)))))), ?_⟩
    obtain ⟨y, a, b, h, rfl, A, hl, q⟩ := h
    obtain ⟨dy, hy⟩ := A.ins
    obtain ⟨vs, hb, hv⟩ := A.ps
    walk_at "rd"
    refine ⟨_, _, _, hy, T.cl_HalfForm, T.n_HalfForm_head, _, rfl, rfl, ite_i (fun hc => ?_) (fun hc => ?_)⟩
    · refine ⟨by decide, fun c1 n1 => ?_⟩
      have s1 := same_new (o := .tup [.str "call"]) n1
      refine ⟨_, _, _, s1 _ _ hy, T.cl_HalfForm, T.n_HalfForm_read_parts_now, _, rfl, _, rfl, _, s1 _ _ hb, fun c2 n2 c3 n3 => ?_⟩
      have s2 := s1.trans (same_new (o := .lst (cutV vs none (some 2))) n2)
      have s3 := s2.trans (same_new (o := .tup (cutV vs none (some 2))) n3)
      have e1 : cutV vs none (some 2) = vs.take 2 := cutV_hi vs 2
      have e2 : cutV vs (some 2) none = vs.drop 2 := cutV_lo vs 2
      have lv := hv.len
      refine cat_any (xs := [.str "call"]) (ds := [.str "call"]) (ys := vs.take 2) (es := h.ps.take 2) ?_ (.cons (.str _) .nil) (by rw [upd_same, e1]) ((hv.take 2).same s3) ?_ fun r H4 s4 d4 => ?_
      · exact (same_new n3) _ _ ((same_new n2) _ _ upd_same)
      · rw [List.length_take]
        simp only [List.length_cons, List.length_nil]
        omega
      have s4' := s3.trans s4
      refine ⟨_, _, _, s4' _ _ hy, T.cl_HalfForm, T.n_HalfForm_read_parts_now, _, rfl, _, rfl, _, s4' _ _ hb, fun c5 n5 c6 n6 => ⟨by decide, fun c7 n7 => ?_⟩⟩
      have t5 := same_new (o := .lst (cutV vs (some 2) none)) n5
      have t6 := t5.trans (same_new (o := .tup (cutV vs (some 2) none)) n6)
      have t7 := t6.trans (same_new (o := .tup [.ref c6]) n7)
      have s7 := s4'.trans t7
      obtain ⟨r', xs, e, hr, hxs⟩ := (d4.same t7).inv_tup
      cases e
      refine cat_any (xs := xs) (ys := [.ref c6]) (es := [.tuple (h.ps.drop 2)]) hr hxs upd_same (.cons (.tup ((same_new n7) _ _ upd_same) ?_) .nil) ?_ fun r H8 s8 d8 => q H8 _ (s7.trans s8) ?_
      · have g := (hv.drop 2).same s7
        rw [← e2] at g
        exact g
      · have := hxs.len
        rw [this, List.length_append, List.length_take]
        simp only [List.length_cons, List.length_nil]
        omega
      · unfold Hf.whole
        rw [if_pos (V.str.inj hc)]
        rw [List.append_assoc] at d8
        exact d8
    · refine ⟨_, _, _, hy, T.cl_HalfForm, T.n_HalfForm_head, _, rfl, by decide, fun c1 n1 => ?_⟩
      have s1 := same_new (o := .tup [.str h.hd]) n1
      refine ⟨_, _, _, s1 _ _ hy, T.cl_HalfForm, T.n_HalfForm_read_parts_now, _, rfl, _, rfl, _, s1 _ _ hb, fun c2 n2 => ?_⟩
      have s2 := s1.trans (same_new (o := .tup vs) n2)
      have lv := hv.len
      refine cat_any (xs := [.str h.hd]) (ds := [.str h.hd]) (ys := vs) (es := h.ps) ((same_new n2) _ _ upd_same) (.cons (.str _) .nil) upd_same (hv.same s2) ?_ fun r H4 s4 d4 => q H4 _ (s2.trans s4) ?_
      · simp only [List.length_cons, List.length_nil]
        omega
      · unfold Hf.whole
        rw [if_neg (fun e => hc (by rw [e]))]
        exact d4
end
section
variable {P : Program} {w : World} {K : PySem.W.Frag} {mg : Str → Option Value} {base : Heap}
theorem ok_kinds_of (S : Src K mg "kinds_of" s_kinds_of) (T : Tx P K mg) (TD : Td w K)   : Cal P w K mg base CX0 1 "kinds_of" ["word", "due"] (spKinds K) := by
  refine S.cal sc_kinds_of bn_kinds_of (fun vs H Q E h => ?_) (fun f cdv A outer s H vs Q E hr h => ?_)
  · first | (obtain ⟨rfl, _⟩ := h; rfl) | (obtain ⟨_, rfl, _⟩ := h; rfl) | (obtain ⟨_, _, rfl, _⟩ := h; rfl) | (obtain ⟨_, _, _, rfl, _⟩ := h; rfl) | (obtain ⟨_, _, _, _, rfl, _⟩ := h; rfl) | (obtain ⟨_, _, _, _, _, rfl, _⟩ := h; rfl) | (obtain ⟨_, _, _, _, _, _, rfl, _⟩ := h; rfl) | (obtain ⟨_, _, _, _, _, _, _, rfl, _⟩ := h; rfl) | (obtain ⟨_, _, _, _, _, _, _, _, rfl, _⟩ := h; rfl) | (obtain ⟨_, _, _, _, _, _, _, _, _, rfl, _⟩ := h; rfl) | (obtain ⟨_, _, _, _, _, _, _, _, _, _, rfl, _⟩ := h; rfl) | (obtain ⟨_, _, _, _, _, _, _, _, _, _, _, rfl, _⟩ := h; rfl) | (obtain ⟨_, _, _, _, _, _, _, _, _, _, _, _, rfl, _⟩ := h; rfl)
  · skip
    refine ⟨_, (pss_cons (ps_if (pt_cmpR op_eq (pv 1) pe_str (nomark _)) (pss_one Fx.ps_dead) pss_nil)
        (pss_cons (ps_if (pt_cmpR op_eq (pv 1) pe_str (nomark _)) (pss_one (ps_ret (pe_ifExp (pt_cmpR (Fx.op_inKd (K := K) (w := w) rfl rfl) (pv 0) (Fx.pe_cst T.c_NUMBER_FORMS) rfl) (pe_ix (Fx.ix_kd (K := K) (w := w) rfl rfl) (Fx.pe_cst T.c_NUMBER_FORMS) (pv 0) (fun _ _ => rfl)) pe_non))) pss_nil)
        (pss_one (ps_ret (pe_ifExp (pt_cmpR (Fx.op_inKd (K := K) (w := w) rfl rfl) (pv 0) (Fx.pe_cst T.c_THING_FORMS) rfl) (pe_ix (Fx.ix_kd (K := K) (w := w) rfl rfl) (Fx.pe_cst T.c_THING_FORMS) (pv 0) (fun _ _ => rfl)) pe_non))))), ?_⟩
    obtain ⟨due, w, rfl, h0, h1⟩ := h
    cases due
    · walk_at "rd"
      simp only [Bool.false_eq_true, if_false, show ("X" : Str) ≠ "S" by decide, show ("X" : Str) ≠ "N" by decide]
      exact kd_find (due := false) T.t_TF TD.THING_FORMS h0 h1
    · walk_at "rd"
      simp only [if_true, if_false, show ("N" : Str) ≠ "S" by decide]
      exact kd_find (due := true) T.t_NF TD.NUMBER_FORMS h0 h1
end
section
variable {P : Program} {w : World} {K : PySem.W.Frag} {mg : Str → Option Value} {base : Heap}
theorem ok_params_word (S : Src K mg "params_word" s_params_word) (T : Tx P K mg) (TD : Td w K)   : Cal P w K mg base CX0 1 "params_word" ["params"] spParamsWord := by
  refine S.cal sc_params_word bn_params_word (fun vs H Q E h => ?_) (fun f cdv A outer s H vs Q E hr h => ?_)
  · first | (obtain ⟨rfl, _⟩ := h; rfl) | (obtain ⟨_, rfl, _⟩ := h; rfl) | (obtain ⟨_, _, rfl, _⟩ := h; rfl) | (obtain ⟨_, _, _, rfl, _⟩ := h; rfl) | (obtain ⟨_, _, _, _, rfl, _⟩ := h; rfl) | (obtain ⟨_, _, _, _, _, rfl, _⟩ := h; rfl) | (obtain ⟨_, _, _, _, _, _, rfl, _⟩ := h; rfl) | (obtain ⟨_, _, _, _, _, _, _, rfl, _⟩ := h; rfl) | (obtain ⟨_, _, _, _, _, _, _, _, rfl, _⟩ := h; rfl) | (obtain ⟨_, _, _, _, _, _, _, _, _, rfl, _⟩ := h; rfl) | (obtain ⟨_, _, _, _, _, _, _, _, _, _, rfl, _⟩ := h; rfl) | (obtain ⟨_, _, _, _, _, _, _, _, _, _, _, rfl, _⟩ := h; rfl) | (obtain ⟨_, _, _, _, _, _, _, _, _, _, _, _, rfl, _⟩ := h; rfl)
  · skip
    refine ⟨_, (pss_cons (ps_if (pt_cmpR op_eq (pv 0) pe_str (nomark _)) (pss_one (ps_ret pe_str)) pss_nil)
        (pss_one (ps_ret (pv 0)))), ?_⟩
    obtain ⟨z, rfl, q⟩ := h
    walk_at "rd"
    by_cases e : z = ""
    · rw [if_pos e] at q ⊢
      exact q
    · rw [if_neg e] at q ⊢
      exact q
end
section
variable {P : Program} {w : World} {K : PySem.W.Frag} {mg : Str → Option Value} {base : Heap}
theorem ok_form_parts (S : Src K mg "form_parts" s_form_parts) (T : Tx P K mg) (TD : Td w K) (C_params_word : Cal P w K mg base CX0 1 "params_word" ["params"] spParamsWord)  : Cal P w K mg base CX0 2 "form_parts" ["form"] spFormParts := by
  refine S.cal sc_form_parts bn_form_parts (fun vs H Q E h => ?_) (fun f cdv A outer s H vs Q E hr h => ?_)
  · first | (obtain ⟨rfl, _⟩ := h; rfl) | (obtain ⟨_, rfl, _⟩ := h; rfl) | (obtain ⟨_, _, rfl, _⟩ := h; rfl) | (obtain ⟨_, _, _, rfl, _⟩ := h; rfl) | (obtain ⟨_, _, _, _, rfl, _⟩ := h; rfl) | (obtain ⟨_, _, _, _, _, rfl, _⟩ := h; rfl) | (obtain ⟨_, _, _, _, _, _, rfl, _⟩ := h; rfl) | (obtain ⟨_, _, _, _, _, _, _, rfl, _⟩ := h; rfl) | (obtain ⟨_, _, _, _, _, _, _, _, rfl, _⟩ := h; rfl) | (obtain ⟨_, _, _, _, _, _, _, _, _, rfl, _⟩ := h; rfl) | (obtain ⟨_, _, _, _, _, _, _, _, _, _, rfl, _⟩ := h; rfl) | (obtain ⟨_, _, _, _, _, _, _, _, _, _, _, rfl, _⟩ := h; rfl) | (obtain ⟨_, _, _, _, _, _, _, _, _, _, _, _, rfl, _⟩ := h; rfl)
  · skip
    refine ⟨_, (pss_cons (ps_if (pt_cmpR Fx.in_S (pe_ix Fx.ix_T (pv 0) pe_int (fun _ _ => rfl)) (pe_tup (Fx.pa_c pe_str (Fx.pa_c pe_str (Fx.pa_c pe_str pa_nil)))) rfl) (pss_one (ps_ret (pe_lst (Fx.pa_c (pe_ix Fx.ix_T (pv 0) pe_int (fun _ _ => rfl)) pa_nil)))) pss_nil)
        (pss_cons (ps_if (pt_cmpR op_eq (pe_ix Fx.ix_T (pv 0) pe_int (fun _ _ => rfl)) pe_str (nomark _)) (pss_one (ps_ret (pe_op op_cat (pe_lst (Fx.pa_c pe_str (Fx.pa_c (pe_ix Fx.ix_T (pv 0) pe_int (fun _ _ => rfl)) (Fx.pa_c (Fx.pe_cal C_params_word (hr.mono (by decide)) pass0 (Fx.pa_c (pe_ix Fx.ix_T (pv 0) pe_int (fun _ _ => rfl)) pa_nil)) pa_nil)))) (Fx.pe_cTy Fx.list_T T.b_list (by decide +kernel) (Fx.pa_c (pe_ix Fx.ix_T (pv 0) pe_int (fun _ _ => rfl)) pa_nil))))) pss_nil)
        (pss_one (ps_ret (Fx.pe_cTy Fx.list_T T.b_list (by decide +kernel) (Fx.pa_c (pv 0) pa_nil)))))), ?_⟩
    obtain ⟨a, h, xs, rfl, ha, hl, q⟩ := h
    refine seqI fun K1 k1 => ?_
    walk_at "rd"
    refine ⟨_, ha, .str h, atI_get (i := 0) rfl, by decide, fun c nc => ⟨h, rfl, ["is", "get", "at"], .inr upd_same, ?_⟩⟩
    have s1 := same_new (o := .tup [.str "is", .str "get", .str "at"]) nc
    have em : h ∈ (["is", "get", "at"] : List Str) ↔ (h = "is" ∨ h = "get" ∨ h = "at") := by simp
    have fr : ∀ {H1 : Hp} {r : Addr}, Same H H1 → H1 r = none → H r = none := fun {H1 r} s n => by
      cases e : H r with
      | none => rfl
      | some o => rw [s _ _ e] at n; cases n
    refine ite_i (fun hm => ?_) (fun hm => ?_)
    · rcases q with ⟨_, y, rfl, q⟩ | ⟨rfl, _⟩ | ⟨n, _⟩
      · refine ⟨_, s1 _ _ ha, y, atI_get (i := 1) rfl, by decide, fun r nr => q r _ (s1.trans (same_new nr)) (fr s1 nr) upd_same⟩
      · exact absurd hm (by decide)
      · exact absurd (em.mp hm) n
    refine k1 _ _ ?_
    clear k1
    refine seqI fun K1 k1 => ?_
    walk_at "rd"
    refine ⟨_, s1 _ _ ha, .str h, atI_get (i := 0) rfl, rfl, ite_i (fun hc => ?_) (fun hc => ?_)⟩
    · rcases q with ⟨g, _⟩ | ⟨rfl, nm, pr, t, ys, rfl, ht, hy, q⟩ | ⟨_, n, _⟩
      · exact absurd (em.mpr g) hm
      · refine ⟨_, s1 _ _ ha, .str nm, at1, _, s1 _ _ ha, .str pr, at2, pr, rfl, by decide, fun r1 n1 => ?_⟩
        have s2 := s1.trans (same_new (o := .lst [.str "call", .str nm, .str (if pr = "" then ("-" : Str) else pr)]) n1)
        refine ⟨_, s2 _ _ ha, .ref t, at3, t, rfl, _, s2 _ _ ht, fun r2 n2 => ?_⟩
        have s3 := same_new (o := .lst ys) n2
        refine ⟨_, s3 _ _ upd_same, ?_, fun r3 n3 => q r3 _ ((s2.trans s3).trans (same_new n3)) (fr (s2.trans s3) n3) upd_same⟩
        simp only [List.length_cons, List.length_nil]
        exact Nat.le_trans (show _ ≤ 2000 by omega) (by decide)
      · exact absurd (V.str.inj hc) n
    refine k1 _ _ ?_
    clear k1
    walk_at "rd"
    rcases q with ⟨g, _⟩ | ⟨g, _⟩ | ⟨_, _, q⟩
    · exact absurd (em.mpr g) hm
    · exact absurd (by rw [g]) hc
    · exact ⟨_, s1 _ _ ha, fun r nr => q r _ (s1.trans (same_new nr)) (fr s1 nr) upd_same⟩
end
section
variable {P : Program} {w : World} {K : PySem.W.Frag} {mg : Str → Option Value} {base : Heap}
theorem ok_write_form (S : Src K mg "write_form" s_write_form) (T : Tx P K mg) (TD : Td w K) (C_form_parts : Cal P w K mg base CX0 2 "form_parts" ["form"] spFormParts)  : Cal P w K mg base CX0 3 "write_form" ["form"] spWriteForm := by
  refine S.cal sc_write_form bn_write_form (fun vs H Q E h => ?_) (fun f cdv A outer s H vs Q E hr h => ?_)
  · first | (obtain ⟨rfl, _⟩ := h; rfl) | (obtain ⟨_, rfl, _⟩ := h; rfl) | (obtain ⟨_, _, rfl, _⟩ := h; rfl) | (obtain ⟨_, _, _, rfl, _⟩ := h; rfl) | (obtain ⟨_, _, _, _, rfl, _⟩ := h; rfl) | (obtain ⟨_, _, _, _, _, rfl, _⟩ := h; rfl) | (obtain ⟨_, _, _, _, _, _, rfl, _⟩ := h; rfl) | (obtain ⟨_, _, _, _, _, _, _, rfl, _⟩ := h; rfl) | (obtain ⟨_, _, _, _, _, _, _, _, rfl, _⟩ := h; rfl) | (obtain ⟨_, _, _, _, _, _, _, _, _, rfl, _⟩ := h; rfl) | (obtain ⟨_, _, _, _, _, _, _, _, _, _, rfl, _⟩ := h; rfl) | (obtain ⟨_, _, _, _, _, _, _, _, _, _, _, rfl, _⟩ := h; rfl) | (obtain ⟨_, _, _, _, _, _, _, _, _, _, _, _, rfl, _⟩ := h; rfl)
  · skip
    refine ⟨_, (pss_cons (ps_set (i := 1) sc_write_form.nd rfl (Or.inl rfl) (pe_lst pa_nil))
        (pss_cons (ps_set (i := 2) sc_write_form.nd rfl (Or.inl rfl) (pe_lst (Fx.pa_c (pv 0) pa_nil)))
        (pss_cons (ps_while PassesOwn.never (pt_truth (pv 2) (by intro _; rfl)) (pss_cons (ps_set (i := 3) sc_write_form.nd rfl (Or.inl rfl) (pe_bm0 PySem.F.plainAttrs_list PySem.F.slot_list_pop PySem.F.type_list_pop mt_pop (pv 2)))
        (pss_one (ps_if (pt_val (Fx.pe_cB Fx.is_B T.b_isinstance (by decide +kernel) (Fx.pa_c (pv 3) (Fx.pa_c (pe_bltn (v := .ty "tuple") (by rfl) T.b_tuple (by decide +kernel) rfl) pa_nil)))) (pss_one (ps_expr (pe_bm PySem.F.plainAttrs_list PySem.F.slot_list_extend PySem.F.type_list_extend mt_extend (pv 2) (Fx.pa_c (pe_revL (Fx.pe_cal C_form_parts (hr.mono (by decide)) pass0 (Fx.pa_c (pv 3) pa_nil))) pa_nil)))) (pss_one (ps_expr (pe_bm PySem.F.plainAttrs_list PySem.F.slot_list_append PySem.F.type_list_append mt_append (pv 1) (Fx.pa_c (Fx.pe_cTy Fx.str_C T.b_str (by decide +kernel) (Fx.pa_c (pv 3) pa_nil)) pa_nil))))))))
        (pss_one (ps_ret (pe_m1 PySem.F.slot_str_join PySem.F.type_str_join Fx.mt_jn pe_str (pv 1))))))), ?_⟩
    obtain ⟨v, d, due, lv, w, rfl, hv, hf, hl, q⟩ := h
    obtain ⟨wp, w1, w2⟩ := fm_size hf hl
    refine seqI fun K1 k1 => ?_
    walk_at "rd"
    refine ⟨by decide, ?_⟩
    intro W nW
    generalize e_W : upd H W _ = H1
    have s1 := new_s nW e_W
    have hW := new_h e_W
    clear e_W
    try (first | replace hv := s1 _ _ hv | replace hv := hv.same s1 | replace hv := hv.then s1 | replace hv := hv.trans s1)
    refine k1 _ _ ?_
    clear k1
    refine seqI fun K1 k1 => ?_
    walk_at "rd"
    refine ⟨by decide, ?_⟩
    intro D nD
    generalize e_D : upd H1 D _ = H2
    have s2 := new_s nD e_D
    have hD := new_h e_D
    clear e_D
    try (first | replace hv := s2 _ _ hv | replace hv := hv.same s2 | replace hv := hv.then s2 | replace hv := hv.trans s2)
    try (first | replace hW := s2 _ _ hW | replace hW := hW.same s2 | replace hW := hW.then s2 | replace hW := hW.trans s2)
    refine k1 _ _ ?_
    clear k1
    refine seqI fun K1 k1 => ?_
    have nWD : W ≠ D := ne_of hW hD (by intro z; cases z)
    have wf0 : WsF [d] w := by
      have := WsF.fm hf .nil
      rw [List.append_nil] at this
      exact this
    have nl0 : noLs [d] = true := by
      rw [noLs, fm_n lv hf, noLs]
      rfl
    refine whileF (WfW w v W D H) (dszs [d]) ⟨[], [v], [d], w, none, rfl, hW, hD, .cons hv .nil, nl0, wf0, rfl, rfl, s1.trans s2⟩ ?_
    clear hv hW hD nl0 wf0 s2
    rintro m σ H3 ⟨dn, xs, S, rest, vt, rfl, hW3, hD3, hX, nl, wf, rfl, rfl, s3⟩ A B hA hB
    walk_at "rd"
    refine ⟨!xs.reverse.isEmpty, .inl ⟨_, .inl (.inl hD3), rfl⟩, ?_⟩
    have lx := hX.len
    have ls := wsf_len wf
    rw [List.length_append] at w2
    cases hX with
    | nil =>
      cases wf
      refine Fx.ifF (by decide) (hB _ (k1 _ _ ?_))
      walk_at "rd"
      rw [List.append_nil] at wp q
      exact ⟨dn, hW3, join_size wp (by omega), q H3 s3⟩
    | @cons x xs d0 S hx hX =>
      refine Fx.ifT (by simp) (hA _ ?_)
      have er : (x :: xs).reverse = xs.reverse ++ [x] := List.reverse_cons
      rw [er] at hD3
      have dl : (xs.reverse ++ [x]).dropLast = xs.reverse := List.dropLast_concat
      rw [noLs, Bool.and_eq_true] at nl
      walk_at "rd"
      refine ⟨.inl ⟨rfl, _, .inl (.inl hD3)⟩, D, _, x, rfl, rfl, hD3, by simp, ?_⟩
      rw [dl]
      have hW4 : (upd H3 D (.lst xs.reverse)) W = some (.lst (ms dn)) := by rw [upd_ne nWD]; exact hW3
      have hx4 := hx.putL nl.1 hD3 (ys := xs.reverse)
      have hX4 := hX.putL nl.2 hD3 (ys := xs.reverse)
      have hD4 : (upd H3 D (.lst xs.reverse)) D = some (.lst xs.reverse) := upd_same
      have s4 : Same H (upd H3 D (.lst xs.reverse)) := Same.put s3 (s1.free nD)
      generalize upd H3 D (.lst xs.reverse) = H4 at hW4 hx4 hX4 hD4 s4
      clear hx hX
      have leaf : ∀ (wd : Str) (r : List Str), WsF S r → rest = wd :: r → H4 W = some (.lst (ms dn)) ∧ (ms dn).length < sizeLine ∧ ∃ m', m' < dszs (d0 :: S) ∧ WfW (dn ++ rest) v W D H m' [some v, some (.ref W), some (.ref D), some x] (upd H4 W (.lst (ms dn ++ [.str wd]))) := fun wd r hr er => by
        subst er
        refine ⟨hW4, ?_, dszs S, ?_, dn ++ [wd], xs, S, r, _, rfl, ?_, ?_, hX4.putL nl.2 hW4, nl.2, hr, ?_, rfl, Same.put s4 nW⟩
        · unfold ms
          rw [List.length_map]
          exact Nat.lt_of_le_of_lt (show _ ≤ 10000 by omega) (by decide)
        · have := dsz_pos d0
          rw [dszs]
          omega
        · rw [upd_same]
          unfold ms
          rw [List.map_append]
          rfl
        · rw [upd_ne (Ne.symm nWD)]
          exact hD4
        · rw [List.append_assoc]
          rfl
      dsimp only
      cases wf with
      | int hi wr =>
        have l2 := leaf _ _ wr rfl
        cases hx4
        exact ⟨"int", tyv_int, false, kb_int_tup, Fx.ifF (by decide) ⟨tyL hW4, .inl ⟨_, rfl, Nat.lt_of_le_of_lt (Nat.log2_le_self _) (by omega), _, l2⟩⟩⟩
      | str wr =>
        have l2 := leaf _ _ wr rfl
        cases hx4
        exact ⟨"str", tyv_str, false, kb_str_tup, Fx.ifF (by decide) ⟨tyL hW4, .inr ⟨_, rfl, _, l2⟩⟩⟩
      | @fm due2 lv2 _ w2' _ ws2 hf2 wr =>
        clear leaf hA hB q k1
        obtain ⟨ds0, rfl⟩ : ∃ ds, d0 = .tuple ds := by cases hf2 <;> exact ⟨_, rfl⟩
        obtain ⟨a, vs, rfl, ha, hvs⟩ := hx4.inv_tup
        refine ⟨"tuple", tyv_tup ha, true, kb_tuple_tuple, Fx.ifT rfl ⟨tyL hD4, ?_⟩⟩
        have lv0 := hvs.len
        have ext : ∀ (parts : List PyData) (ys : List V) (H5 : Hp) (r : Addr), Same H4 H5 → H5 r = some (.lst ys) → DvAll H5 ys parts → noLs parts = true → WsF (parts ++ S) (w2' ++ ws2) → dszs parts < dsz (.tuple ds0) →
          ∃ a_1, V.ref r = V.ref a_1 ∧ ∃ x, SqL K H5 a_1 x ∧ ∀ (p : Addr), H5 p = none → ∃ x_1, upd H5 p (HO.lst x.reverse) D = some (HO.lst x_1) ∧ x_1.length + x.reverse.length ≤ sizeLine ∧ ∃ m', m' < dszs (PyData.tuple ds0 :: S) ∧
            WfW (dn ++ (w2' ++ ws2)) v W D H m' [some v, some (V.ref W), some (V.ref D), some (V.ref a)] (upd (upd H5 p (HO.lst x.reverse)) D (HO.lst (x_1 ++ x.reverse))) := by
          intro parts ys H5 r s5 hr hy np wp2 lt
          refine ⟨r, rfl, ys, .inl (.inl hr), fun p mp => ?_⟩
          have sp := same_new (o := .lst ys.reverse) mp
          have s6 := s5.trans sp
          have hD6 := s6 _ _ hD4
          have ly := hy.len
          have l3 := wsf_len wp2
          rw [List.length_append] at l3
          refine ⟨_, hD6, ?_, dszs (parts ++ S), ?_, dn, ys ++ xs, parts ++ S, w2' ++ ws2, _, rfl, ?_, ?_, ?_, ?_, wp2, rfl, rfl, Same.put (s4.trans s6) (s1.free nD)⟩
          · rw [List.length_reverse, List.length_reverse]
            simp only [List.length_cons] at lx
            exact Nat.le_trans (show _ ≤ 10000 by omega) (by decide)
          · rw [dszs_app, dszs]
            omega
          · rw [upd_ne nWD]
            exact s6 _ _ hW4
          · rw [upd_same, List.reverse_append]
          · exact ((hy.same sp).putL np hD6).app ((hX4.same s6).putL nl.2 hD6)
          · exact noLs_app np nl.2
        cases hf2 with
        | is hi =>
          obtain ⟨v0, v1, rfl, d0, d1⟩ := hvs.inv2
          rw [d0.inv_str] at ha
          refine ⟨a, _, _, rfl, ha, by simp, .inl ⟨.inl rfl, _, rfl, fun r H5 s5 nr hr => ext [.int _] _ H5 r s5 hr (.cons (d1.same s5) .nil) (by simp [noLs, noL]) (.int hi wr) (by simp [dszs, dsz])⟩⟩
        | get hz =>
          obtain ⟨v0, v1, rfl, d0, d1⟩ := hvs.inv2
          rw [d0.inv_str] at ha
          refine ⟨a, _, _, rfl, ha, by simp, .inl ⟨.inr (.inl rfl), _, rfl, fun r H5 s5 nr hr => ext [.str _] _ H5 r s5 hr (.cons (d1.same s5) .nil) (by simp [noLs, noL]) (.str wr) (by simp [dszs, dsz])⟩⟩
        | «at» hz =>
          obtain ⟨v0, v1, rfl, d0, d1⟩ := hvs.inv2
          rw [d0.inv_str] at ha
          refine ⟨a, _, _, rfl, ha, by simp, .inl ⟨.inr (.inr rfl), _, rfl, fun r H5 s5 nr hr => ext [.str _] _ H5 r s5 hr (.cons (d1.same s5) .nil) (by simp [noLs, noL]) (.str wr) (by simp [dszs, dsz])⟩⟩
        | @call lv3 nm pr ds3 ws3 hn hp hr3 =>
          obtain ⟨v0, vs1, rfl, d0, hvs⟩ := hvs.inv_cons
          obtain ⟨v1, v2, v3, rfl, d1, d2, d3⟩ := hvs.inv3
          obtain ⟨t, ys, rfl, ht, hys⟩ := d3.inv_tup
          rw [d0.inv_str, d1.inv_str, d2.inv_str] at ha
          have ly := hys.len
          have n3 := pts_n (fm_n lv3) hr3
          have l3 := (pts_s (fm_s lv3) hr3).2
          have lp := prk_len hp
          refine ⟨a, _, _, rfl, ha, by simp, .inr (.inl ⟨rfl, nm, pr, t, ys, rfl, ht, by omega, fun r H5 s5 nr hr => ext (.str "call" :: .str nm :: .str (if pr = "" then ("-" : Str) else pr) :: ds3) _ H5 r s5 hr (.cons (.str _) (.cons (.str _) (.cons (.str _) (hys.same s5)))) (by simp [noLs, noL, n3]) (.str (.str (.str (pts_wsf hr3 wr)))) (by simp only [dszs, dsz]; omega)⟩)⟩
        | @nd _ lv3 h3 ks3 ds3 ws3 ht3 e1 e2 e3 e4 hr3 =>
          obtain ⟨v0, vs1, rfl, d0, hvs⟩ := hvs.inv_cons
          rw [d0.inv_str] at ha
          have ly := hvs.len
          have n3 := pts_n (fm_n lv3) hr3
          have l3 := (pts_s (fm_s lv3) hr3).2
          have lk : ks3.length ≤ 3 := of_decide_eq_true (List.all_eq_true.mp (ks_len due2 (by cases due2 <;> decide)) _ ht3)
          refine ⟨a, _, _, rfl, ha, by omega, .inr (.inr ⟨fun g => g.elim e1 fun g => g.elim e2 e3, e4, fun r H5 s5 nr hr => ext (.str h3 :: ds3) _ H5 r s5 hr (.cons (.str _) (hvs.same s5)) (by simp [noLs, noL, n3]) (.str (pts_wsf hr3 wr)) (by simp [dszs, dsz])⟩)⟩
end
section
variable {P : Program} {w : World} {K : PySem.W.Frag} {mg : Str → Option Value} {base : Heap}
theorem ok_begun (S : Src K mg "begun" s_begun) (T : Tx P K mg) (TD : Td w K) (C_LineWords_M_seen : CalM P w K mg base CX0 1 (He.ga K "LineWords") "seen" ["self"] (spSeen K)) (C_is_decimal : Cal P w K mg base CX0 1 "is_decimal" ["word"] spIsDec) (C_HalfForm_MU_initU : CalI P w K mg base CX0 1 (He.ga K "HalfForm") ["self", "head", "dues"] (spHFI K)) (C_LineWords_M_take_small : CalM P w K mg base (L2.CX P w) 5 (He.ga K "LineWords") "take_small" ["self", "kind"] (spTakeS K)) (C_kinds_of : Cal P w K mg base CX0 1 "kinds_of" ["word", "due"] (spKinds K)) (C_LineWords_M_take : CalM P w K mg base (L2.CX P w) 3 (He.ga K "LineWords") "take" ["self", "good"] (spTake K))  : Cal P w K mg base (L2.CX P w) 6 "begun" ["line", "due"] (spBegun K) := by
  refine S.calX sc_begun bn_begun (fun vs H Q E h => ?_) (fun f cdv A outer s H vs Q E hr h => ?_)
  · first | (obtain ⟨rfl, _⟩ := h; rfl) | (obtain ⟨_, rfl, _⟩ := h; rfl) | (obtain ⟨_, _, rfl, _⟩ := h; rfl) | (obtain ⟨_, _, _, rfl, _⟩ := h; rfl) | (obtain ⟨_, _, _, _, rfl, _⟩ := h; rfl) | (obtain ⟨_, _, _, _, _, rfl, _⟩ := h; rfl) | (obtain ⟨_, _, _, _, _, _, rfl, _⟩ := h; rfl) | (obtain ⟨_, _, _, _, _, _, _, rfl, _⟩ := h; rfl) | (obtain ⟨_, _, _, _, _, _, _, _, rfl, _⟩ := h; rfl) | (obtain ⟨_, _, _, _, _, _, _, _, _, rfl, _⟩ := h; rfl) | (obtain ⟨_, _, _, _, _, _, _, _, _, _, rfl, _⟩ := h; rfl) | (obtain ⟨_, _, _, _, _, _, _, _, _, _, _, rfl, _⟩ := h; rfl) | (obtain ⟨_, _, _, _, _, _, _, _, _, _, _, _, rfl, _⟩ := h; rfl)
  · skip
    obtain ⟨f_LineWords_M_seen, fd_LineWords_M_seen, m_LineWords_M_seen, b_LineWords_M_seen, G_LineWords_M_seen⟩ := C_LineWords_M_seen.ex
    obtain ⟨f_LineWords_M_take_small, fd_LineWords_M_take_small, m_LineWords_M_take_small, b_LineWords_M_take_small, G_LineWords_M_take_small⟩ := C_LineWords_M_take_small.ex
    obtain ⟨f_LineWords_M_take, fd_LineWords_M_take, m_LineWords_M_take, b_LineWords_M_take, G_LineWords_M_take⟩ := C_LineWords_M_take.ex
    refine ⟨_, (pss_cons (ps_set (i := 2) sc_begun.nd rfl (Or.inl rfl) (pe_meth0 (pv 0) T.cl_LineWords m_LineWords_M_seen G_LineWords_M_seen (hr.mono (by decide)) b_LineWords_M_seen .nil pass0))
        (pss_cons (ps_if (PW.pt (pw_and (pt_cmpR op_eq (pv 1) pe_str (nomark _)) (pw_and1 (pt_val (Fx.pe_cal C_is_decimal (hr.mono (by decide)) pass0 (Fx.pa_c (pv 2) pa_nil)))))) (pss_cons (ps_set (i := 3) sc_begun.nd rfl (Or.inl rfl) (Fx.pe_mk C_HalfForm_MU_initU (hr.mono (by decide)) T.g_HalfForm pass0 (Fx.pa_c pe_str (Fx.pa_c (pe_tup pa_nil) pa_nil))))
        (pss_cons (ps_expr (pe_bm PySem.F.plainAttrs_list PySem.F.slot_list_append PySem.F.type_list_append mt_append (Fx.pe_fldK (K := K) rfl (pv 3) rfl) (Fx.pa_c (pe_meth (pv 0) T.cl_LineWords m_LineWords_M_take_small G_LineWords_M_take_small (hr.mono (by decide)) b_LineWords_M_take_small .nil (passes_call (takes_of rfl rfl rfl rfl) (fun _ _ _ _ z => z)) (Fx.pa_c pe_str pa_nil)) pa_nil)))
        (pss_one (ps_ret (pv 3))))) pss_nil)
        (pss_cons (ps_if (PW.pt (pw_and (pt_cmpR op_notNon (pv 2) pe_non (nomark _)) (pw_and (pt_cmpR Fx.notIn_S (pv 2) (pe_tup (Fx.pa_c pe_str (Fx.pa_c pe_str (Fx.pa_c pe_str pa_nil)))) rfl) (pw_and1 (pt_cmpR op_notNon (Fx.pe_cal C_kinds_of (hr.mono (by decide)) pass0 (Fx.pa_c (pv 2) (Fx.pa_c (pv 1) pa_nil))) pe_non (nomark _)))))) (pss_one (ps_ret (Fx.pe_mk C_HalfForm_MU_initU (hr.mono (by decide)) T.g_HalfForm pass0 (Fx.pa_c (pe_meth (pv 0) T.cl_LineWords m_LineWords_M_take G_LineWords_M_take (hr.mono (by decide)) b_LineWords_M_take .nil (passes_call (takes_of rfl rfl rfl rfl) (fun _ _ _ _ z => z)) (Fx.pa_c pe_bl pa_nil)) (Fx.pa_c (pe_lc (own := [("kind", 4)]) rfl sc_begun.nd (pi_tup (Fx.pe_cal C_kinds_of (hr.mono (by decide)) pass0 (Fx.pa_c (pv 2) (Fx.pa_c (pv 1) pa_nil)))) (blkOk_by (N := N_begun) (sc := defScope s_begun) (by decide +kernel)) (fun _ _ _ _ _ => (pg_name (i := 4) sc_begun.nd rfl (Or.inl rfl))) (fun _ _ _ _ _ => (pts_one (pt_cmpR op_ne (pv 4) pe_str (nomark _)))) (fun _ _ _ _ _ => (pv 4))) pa_nil))))) pss_nil)
        (pss_cons (ps_if (pt_cmpR op_eq (pv 1) pe_str (nomark _)) (pss_cons (ps_set (i := 3) sc_begun.nd rfl (Or.inl rfl) (Fx.pe_mk C_HalfForm_MU_initU (hr.mono (by decide)) T.g_HalfForm pass0 (Fx.pa_c pe_str (Fx.pa_c (pe_tup pa_nil) pa_nil))))
        (pss_cons (ps_expr (pe_bm PySem.F.plainAttrs_list PySem.F.slot_list_append PySem.F.type_list_append mt_append (Fx.pe_fldK (K := K) rfl (pv 3) rfl) (Fx.pa_c (pe_meth (pv 0) T.cl_LineWords m_LineWords_M_take_small G_LineWords_M_take_small (hr.mono (by decide)) b_LineWords_M_take_small .nil (passes_call (takes_of rfl rfl rfl rfl) (fun _ _ _ _ z => z)) (Fx.pa_c pe_str pa_nil)) pa_nil)))
        (pss_one (ps_ret (pv 3))))) pss_nil)
        (pss_cons (ps_set (i := 3) sc_begun.nd rfl (Or.inl rfl) (Fx.pe_mk C_HalfForm_MU_initU (hr.mono (by decide)) T.g_HalfForm pass0 (Fx.pa_c pe_str (Fx.pa_c (pe_tup pa_nil) pa_nil))))
        (pss_cons (ps_expr (pe_bm PySem.F.plainAttrs_list PySem.F.slot_list_append PySem.F.type_list_append mt_append (Fx.pe_fldK (K := K) rfl (pv 3) rfl) (Fx.pa_c (pe_meth (pv 0) T.cl_LineWords m_LineWords_M_take_small G_LineWords_M_take_small (hr.mono (by decide)) b_LineWords_M_take_small .nil (passes_call (takes_of rfl rfl rfl rfl) (fun _ _ _ _ z => z)) (Fx.pa_c pe_str pa_nil)) pa_nil)))
        (pss_one (ps_ret (pv 3))))))))), ?_⟩
    obtain ⟨x, p, num, ws, k, due, rfl, L, wo, qe, q⟩ := h
    obtain ⟨dx, hx⟩ := L.ins
    have leaf : ∀ (kd hd : Str) (H1 : Hp), kd ∈ takeKinds → Same H H1 → (ws[k]?.bind (takeS kd) = none → beg ws k due = none) → (∀ d, ws[k]?.bind (takeS kd) = some d → beg ws k due = some ⟨hd, [], [d]⟩) → 0 ≤ sizeLine ∧ ∀ c, H1 c = none → ∀ y dy, upd H1 c (.tup []) y = none → upd H1 c (.tup []) dy = none → dy ≠ y → spHFI K [.ref y, .str hd, .ref c] (upd (upd (upd H1 c (.tup [])) dy (.own y)) y (.ins (He.ga K "HalfForm") dy [])) (fun v H2 => v = .non ∧ ∃ x_3 x_4 x_5, H2 y = some (.ins x_3 x_4 x_5) ∧ Cls K x_3 ∧ NoAttr K x_3 "read_parts_now" ∧ ∃ x_6, List.lookup ("read_parts_now" : Str) x_5 = some x_6 ∧ tyV K "list" x_6 H2 ∧ ∃ x_7 x_8, H2 x = some (.ins (He.ga K "LineWords") x_7 x_8) ∧ List.lookup ("take_small" : Str) x_8 = none ∧ spTakeS K [.ref x, .str kd] H2 (fun x H1 => ∃ l, x_6 = .ref l ∧ ∃ x_9, H1 l = some (.lst x_9) ∧ x_9.length < sizeLine ∧ Q (.ref y) (upd H1 l (.lst (x_9 ++ [x])))) E) E0 := by
      intro kd hd H1 hk s1 hn hs
      refine ⟨by decide, fun c nc y dy ny ndy ne => ?_⟩
      have s2 := s1.trans (same_new (o := .tup []) nc)
      have ny0 : H y = none := by
        cases e : H y with
        | none => rfl
        | some o => rw [s2 _ _ e] at ny; cases ny
      have sd := same_new (o := .own y) ndy
      have ny2 : (upd (upd H1 c (.tup [])) dy (.own y)) y = none := by rw [upd_ne (fun e => ne e.symm)]; exact ny
      have sy := sd.trans (same_new (o := .ins (He.ga K "HalfForm") dy []) ny2)
      refine ⟨y, dy, c, hd, [], rfl, upd_same, by decide, .inr (sy _ _ upd_same), fun a b H3 b3 na nb A => ⟨rfl, ?_⟩⟩
      have s3 : Same H H3 := same_but (s2.trans sy) ny0 b3
      have fr : ∀ z, (upd (upd (upd H1 c (.tup [])) dy (.own y)) y (.ins (He.ga K "HalfForm") dy [])) z = none → H z = none := fun z nz => by
        cases e : H z with
        | none => rfl
        | some o => rw [(s2.trans sy) _ _ e] at nz; cases nz
      have na0 := fr a na
      have nb0 := fr b nb
      have L3 := L.same s3
      have nx : ∀ z, H z = none → z ≠ x := fun z nz e => by rw [e, hx] at nz; cases nz
      have np : ∀ z, H z = none → p ≠ z := fun z nz e => by rw [← e, L.row] at nz; cases nz
      obtain ⟨d2, hy3⟩ := A.ins
      obtain ⟨vs, hb3, hv3⟩ := A.ps
      cases hv3
      refine ⟨_, _, _, hy3, T.cl_HalfForm, T.n_HalfForm_read_parts_now, _, rfl, .inl ⟨rfl, _, .inl (.inl hb3)⟩, _, _, s3 _ _ hx, rfl, x, p, num, ws, k, kd, rfl, hk, L3, wo, fun d hdd H4 b4 L4 => ⟨b, rfl, [], b4 _ _ (nx b nb0) hb3, by decide, ?_⟩, fun e => (qe (hn e)).weak (But.of s3) L3.at⟩
      have A4 := A.keep b4 (nx y ny0) (nx a na0) (nx b nb0) (fun xs e => by rw [s3 _ _ hx] at e; cases e)
      have tk : ∃ w, takeS kd w = some d := by
        cases e : ws[k]? with
        | none => rw [e] at hdd; cases hdd
        | some w => rw [e] at hdd; exact ⟨w, hdd⟩
      obtain ⟨w, hw⟩ := tk
      have bb : But b H4 (upd H4 b (.lst ([] ++ [vD d]))) := fun c o hc e => by rw [upd_ne hc]; exact e
      refine q _ (hs d hdd) y a b _ (fun c o hc e => bb _ _ (fun z => by rw [z, nb0] at e; cases e) (b4 _ _ hc (s3 _ _ e))) (L4.but bb (nx b nb0).symm (np b nb0)) ⟨?_, ?_, ?_, ?_, A.ne⟩ ny0 na0 nb0
      · exact ⟨d2, bb _ _ (fun e => by
          rw [← e, hy3] at hb3
          cases hb3) (b4 _ _ (nx y ny0) hy3)⟩
      · exact bb _ _ A.ne (b4 _ _ (nx a na0) A.du)
      · exact ⟨[vD d], upd_same, .cons (vD_dv hw) .nil⟩
      · show noLs [d] = true
        rw [noLs, vD_nl hw]
        rfl
    refine seqI fun K1 k1 => ?_
    walk_at "rd"
    refine ⟨_, _, hx, rfl, x, p, num, ws, k, rfl, L, ?_⟩
    refine k1 _ _ ?_
    clear k1
    refine seqI fun K2 k2 => ?_
    have main : ∀ H1, Same H H1 → (∀ w, ws[k]? = some w → ¬ (due = true ∧ isDec w = true)) → K2 [some (.ref x), some (.str (if due = true then "N" else "X")), some (optV ws[k]?), none, none] H1 := by
      intro H1 s1 nd
      refine k2 _ _ ?_
      refine seqI fun K3 k3 => ?_
      have tail : ∀ H1, Same H H1 → (∀ w, ws[k]? = some w → (w = "is" ∨ w = "get" ∨ w = "at") ∨ kindsOf due w = none) → K3 [some (.ref x), some (.str (if due = true then "N" else "X")), some (optV ws[k]?), none, none] H1 := by
        intro H1 s1 hw
        refine k3 _ _ ?_
        have hw2 := fun w e => And.intro (nd w e) (hw w e)
        have l2 := leaf (leafK due) (if due then "get" else "at") H1 (by cases due <;> decide +kernel) s1 (leaf_none hw2) (leaf_some hw2)
        walk_at "rd"
        cases due
        · exact Fx.ifF (by decide) l2
        · exact Fx.ifT rfl l2
      cases e : ws[k]? with
      | none =>
        rw [e] at tail
        dsimp only [optV]
        walk_at "rd"
        exact tail H1 s1 fun w h => by cases h
      | some w =>
        rw [e] at tail
        dsimp only [optV]
        walk_at "rd"
        refine ⟨by decide, fun c nc => ?_⟩
        have s2 := s1.trans (same_new (o := .tup [.str "is", .str "get", .str "at"]) nc)
        refine ⟨["is", "get", "at"], .inr upd_same, ?_⟩
        refine ite_i (fun m => tail _ s2 fun w' h' => ?_) (fun m => ⟨due, w, rfl, fun hk => Fx.ifT rfl (tail _ s2 fun w' h' => ?_), fun ks a hk hT => Fx.ifF (by simp) ⟨_, _, s2 _ _ hx, rfl, x, p, num, ws, k, true, rfl, L.same s2, fun _ => ⟨w, e, fun H4 b4 L4 => ?_⟩, fun z => (by cases z)⟩⟩)
        · cases h'
          simp only [List.mem_cons, List.not_mem_nil, or_false] at m
          exact .inl m
        · cases h'
          exact .inr hk
        walk_at "rd"
        refine ⟨_, rfl, _, rfl, due, w, rfl, fun z => (by rw [hk] at z; cases z), fun ks2 a2 hk2 hT2 => ⟨a2, rfl, ⟨_, hT2 H4⟩, fun D nD => ?_⟩⟩
        rw [hk] at hk2
        obtain rfl := Option.some.inj hk2
        have kl : ks.length ≤ 10 := by
          have := kinds_len hk
          omega
        refine lc_tup (K := K) (a := a2) (xs := ms ks) (fun i H5 => H5 = upd H4 D (.lst (ms ((ks.take i).filter fun u : Str => decide (u ≠ "forms"))))) rfl (fun i H5 _ e => ?_) ?_ ?_
        · rw [e]
          exact hT2 _
        · rintro i v H5 hv rfl
          have hi := (List.getElem?_eq_some_iff.mp hv).1
          unfold ms at hi hv
          rw [List.length_map] at hi
          rw [List.getElem?_map, List.getElem?_eq_getElem hi] at hv
          have ev : v = .str ks[i] := (Option.some.inj hv).symm
          subst ev
          have tk : List.take (i + 1) ks = List.take i ks ++ [ks[i]] := by
            rw [List.take_add_one, List.getElem?_eq_getElem hi]
            rfl
          refine ⟨rfl, ?_⟩
          walk_at "rd"
          refine ite_i (fun hm => ?_) (fun hm => ?_)
          · rw [tk, List.filter_append, List.filter_cons_of_neg (by simpa using hm)]
            simp
          · rw [upd_upd, tk, List.filter_append, List.filter_cons_of_pos (by simpa using hm)]
            refine ⟨?_, by simp [ms]⟩
            unfold ms
            rw [List.length_map]
            have := List.length_filter_le (fun u : Str => decide (u ≠ "forms")) (List.take i ks)
            rw [List.length_take] at this
            exact Nat.lt_of_lt_of_le (by omega : _ < 1000) (by decide)
        rintro H5 rfl
        rw [show (ms ks).length = ks.length from List.length_map _, List.take_of_length_le (Nat.le_refl _)]
        intro y dy ny ndy ne
        have fk : (ks.filter fun u : Str => decide (u ≠ "forms")).length ≤ 10 := Nat.le_trans (List.length_filter_le _ _) kl
        have sD := same_new (o := .lst (ms (ks.filter fun u : Str => decide (u ≠ "forms")))) nD
        have sd := same_new (o := .own y) ndy
        have ny2 : (upd (upd H4 D (.lst (ms (ks.filter fun u : Str => decide (u ≠ "forms"))))) dy (.own y)) y = none := by rw [upd_ne (fun e => ne e.symm)]; exact ny
        have s5 := (sD.trans sd).trans (same_new (o := .ins (He.ga K "HalfForm") dy []) ny2)
        have fr : ∀ z, z ≠ x → H4 z = none → H z = none := fun z zx nz => ((But.of s2).trans b4).free zx nz
        have kx : ∀ z, H4 z = none → z ≠ x := fun z nz e => by
          obtain ⟨o, ho⟩ := L4.at
          rw [e, ho] at nz
          cases nz
        have bk : ∀ {H9 : Hp} {z : Addr}, Same H4 H9 → H9 z = none → H4 z = none := fun {H9 z} s nz => by
          cases e : H4 z with
          | none => rfl
          | some o => rw [s _ _ e] at nz; cases nz
        have ny4 := bk sD ny
        refine ⟨y, dy, D, w, ks.filter fun u : Str => decide (u ≠ "forms"), rfl, upd_same, by omega, .inl ?_, fun a b H6 b6 na nb A => ⟨rfl, ?_⟩⟩
        · exact (sd.trans (same_new ny2)) _ _ upd_same
        · have s6 : Same H4 H6 := same_but ((sD.trans sd).trans (same_new ny2)) ny4 b6
          have na4 := bk s5 na
          have nb4 := bk s5 nb
          refine q _ ?_ y a b H6 (((But.of s2).trans b4).same s6) (L4.same s6) A (fr y (kx y ny4) ny4) (fr a (kx a na4) na4) (fr b (kx b nb4) nb4)
          unfold beg
          rw [e]
          exact begW_kinds (nd w e) (fun g => m (by simpa using g)) hk
    walk_at "rd"
    cases due
    · simp only [Bool.false_eq_true, if_false, show ("X" : Str) ≠ "N" by decide]
      exact main H (Same.refl H) fun w _ h => by cases h.1
    · simp only [if_true]
      refine ⟨ws[k]?, rfl, opt_ok wo, fun H1 s1 => ⟨_, rfl, ite_i (fun hd => ?_) (fun hd => main H1 s1 fun w e h => hd (by rw [e]; exact h.2))⟩⟩
      cases e : ws[k]? with
      | none =>
        rw [e] at hd
        cases hd
      | some w =>
        rw [e] at hd
        have hd2 : isDec w = true := hd
        refine leaf "integer" "is" H1 (by decide +kernel) s1 ?_ ?_
        · unfold beg
          rw [e]
          show takeS "integer" w = none → begW true w = none
          rw [takeS_dec hd2, begW_dec hd2]
          by_cases g : valD w ≤ 999
          · rw [if_pos g]
            intro z
            cases z
          · rw [if_neg g, if_neg g]
            exact fun _ => rfl
        · unfold beg
          rw [e]
          show ∀ d, takeS "integer" w = some d → begW true w = _
          intro d
          rw [takeS_dec hd2, begW_dec hd2]
          by_cases g : valD w ≤ 999
          · rw [if_pos g, if_pos g]
            intro z
            cases z
            rfl
          · rw [if_neg g]
            intro z
            cases z
end
section
variable {P : Program} {w : World} {K : PySem.W.Frag} {mg : Str → Option Value} {base : Heap}
theorem ok_take_form (S : Src K mg "take_form" s_take_form) (T : Tx P K mg) (TD : Td w K) (C_begun : Cal P w K mg base (L2.CX P w) 6 "begun" ["line", "due"] (spBegun K)) (C_LineWords_M_take_small : CalM P w K mg base (L2.CX P w) 5 (He.ga K "LineWords") "take_small" ["self", "kind"] (spTakeS K)) (C_HalfForm_M_whole : CalM P w K mg base CX0 1 (He.ga K "HalfForm") "whole" ["self"] (spWhole K))  : Cal P w K mg base (L2.CX P w) 7 "take_form" ["line", "due"] (spTakeForm K) := by
  refine S.calX sc_take_form bn_take_form (fun vs H Q E h => ?_) (fun f cdv A outer s H vs Q E hr h => ?_)
  · first | (obtain ⟨rfl, _⟩ := h; rfl) | (obtain ⟨_, rfl, _⟩ := h; rfl) | (obtain ⟨_, _, rfl, _⟩ := h; rfl) | (obtain ⟨_, _, _, rfl, _⟩ := h; rfl) | (obtain ⟨_, _, _, _, rfl, _⟩ := h; rfl) | (obtain ⟨_, _, _, _, _, rfl, _⟩ := h; rfl) | (obtain ⟨_, _, _, _, _, _, rfl, _⟩ := h; rfl) | (obtain ⟨_, _, _, _, _, _, _, rfl, _⟩ := h; rfl) | (obtain ⟨_, _, _, _, _, _, _, _, rfl, _⟩ := h; rfl) | (obtain ⟨_, _, _, _, _, _, _, _, _, rfl, _⟩ := h; rfl) | (obtain ⟨_, _, _, _, _, _, _, _, _, _, rfl, _⟩ := h; rfl) | (obtain ⟨_, _, _, _, _, _, _, _, _, _, _, rfl, _⟩ := h; rfl) | (obtain ⟨_, _, _, _, _, _, _, _, _, _, _, _, rfl, _⟩ := h; rfl)
  · skip
    obtain ⟨f_LineWords_M_take_small, fd_LineWords_M_take_small, m_LineWords_M_take_small, b_LineWords_M_take_small, G_LineWords_M_take_small⟩ := C_LineWords_M_take_small.ex
    obtain ⟨f_HalfForm_M_whole, fd_HalfForm_M_whole, m_HalfForm_M_whole, b_HalfForm_M_whole, G_HalfForm_M_whole⟩ := C_HalfForm_M_whole.ex
    refine ⟨_, (pss_cons (ps_set (i := 2) sc_take_form.nd rfl (Or.inl rfl) (pe_lst (Fx.pa_c (Fx.pe_cal C_begun (hr.mono (by decide)) (passes_call (takes_of rfl rfl rfl rfl) (fun _ _ _ _ z => z)) (Fx.pa_c (pv 0) (Fx.pa_c (pv 1) pa_nil))) pa_nil)))
        (pss_one (ps_while (passes_of rfl) (pt_val pe_bl) (pss_cons (ps_set (i := 3) sc_take_form.nd rfl (Or.inl rfl) (pe_ix Fx.ix_L (pv 2) (pe_un un_neg pe_int) (fun _ _ => rfl)))
        (pss_cons (ps_if (pt_truth (Fx.pe_fldK (K := K) rfl (pv 3) rfl) (by intro _; rfl)) (pss_cons (ps_set (i := 4) sc_take_form.nd rfl (Or.inl rfl) (pe_bm PySem.F.plainAttrs_list PySem.F.slot_list_pop PySem.F.type_list_pop mt_popAt (Fx.pe_fldK (K := K) rfl (pv 3) rfl) (Fx.pa_c pe_int pa_nil)))
        (pss_cons (ps_if (pt_cmpR Fx.in_S (pv 4) (pe_tup (Fx.pa_c pe_str (Fx.pa_c pe_str pa_nil))) rfl) (pss_cons (ps_expr (pe_bm PySem.F.plainAttrs_list PySem.F.slot_list_append PySem.F.type_list_append mt_append (pv 2) (Fx.pa_c (Fx.pe_cal C_begun (hr.mono (by decide)) (passes_call (takes_of rfl rfl rfl rfl) (fun _ _ _ _ z => z)) (Fx.pa_c (pv 0) (Fx.pa_c (pv 4) pa_nil))) pa_nil)))
        (pss_one ps_continue)) pss_nil)
        (pss_cons (ps_expr (pe_bm PySem.F.plainAttrs_list PySem.F.slot_list_append PySem.F.type_list_append mt_append (Fx.pe_fldK (K := K) rfl (pv 3) rfl) (Fx.pa_c (pe_meth (pv 0) T.cl_LineWords m_LineWords_M_take_small G_LineWords_M_take_small (hr.mono (by decide)) b_LineWords_M_take_small .nil (passes_call (takes_of rfl rfl rfl rfl) (fun _ _ _ _ z => z)) (Fx.pa_c (pv 4) pa_nil)) pa_nil)))
        (pss_cons (ps_if (pt_cmpR op_eq (pv 4) pe_str (nomark _)) (pss_one (ps_expr (pe_bm PySem.F.plainAttrs_list PySem.F.slot_list_extend PySem.F.type_list_extend mt_extend (Fx.pe_fldK (K := K) rfl (pv 3) rfl) (Fx.pa_c (pe_lc (own := [("letter", 5)]) rfl sc_take_form.nd (pi_str (pe_ix Fx.ix_L (Fx.pe_fldK (K := K) rfl (pv 3) rfl) (pe_un un_neg pe_int) (fun _ _ => rfl))) (blkOk_by (N := N_take_form) (sc := defScope s_take_form) (by decide +kernel)) (fun _ _ _ _ _ => (pg_name (i := 5) sc_take_form.nd rfl (Or.inl rfl))) (fun _ _ _ _ _ => pts_nil) (fun _ _ _ _ _ => (pe_ifExp (pt_cmpR op_in_sign (pv 5) (Fx.pe_cst T.c_NUMBERS) rfl) pe_str pe_str))) pa_nil)))) pss_nil)
        (pss_one ps_continue))))) pss_nil)
        (pss_cons (ps_expr (pe_bm0 PySem.F.plainAttrs_list PySem.F.slot_list_pop PySem.F.type_list_pop mt_pop (pv 2)))
        (pss_cons (ps_if (pt_not (pt_truth (pv 2) (by intro _; rfl))) (pss_one (ps_ret (pe_meth0 (pv 3) T.cl_HalfForm m_HalfForm_M_whole G_HalfForm_M_whole (hr.mono (by decide)) b_HalfForm_M_whole .nil pass0))) pss_nil)
        (pss_one (ps_expr (pe_bm PySem.F.plainAttrs_list PySem.F.slot_list_append PySem.F.type_list_append mt_append (Fx.pe_fldK (K := K) rfl (pe_ix Fx.ix_L (pv 2) (pe_un un_neg pe_int) (fun _ _ => rfl)) rfl) (Fx.pa_c (pe_meth0 (pv 3) T.cl_HalfForm m_HalfForm_M_whole G_HalfForm_M_whole (hr.mono (by decide)) b_HalfForm_M_whole .nil pass0) pa_nil))))))))))), ?_⟩
    obtain ⟨x, p, num, ws, k, m, due, rfl, L, wo, q⟩ := h
    have hx0 := L.at
    refine seqI fun K1 k1 => ?_
    walk_at "rd"
    refine ⟨x, p, num, ws, k, due, rfl, L, wo, fun e => ?_, fun g eg y a b H1 b1 L1 A1 ny na nb => ⟨by decide, fun D nD => ?_⟩⟩
    · rw [e] at q
      exact q
    rw [eg] at q
    refine k1 _ _ ?_
    clear k1
    walk_at "rd"
    have nD0 : D ≠ x := fun e => by
      obtain ⟨o, ho⟩ := L1.at
      rw [e, ho] at nD
      cases nD
    have hD0 : H D = none := b1.free nD0 nD
    have sD := same_new (o := .lst [.ref y]) nD
    have bz := beg_sz eg
    have hp0 : H p = some (.lst (ms ws)) := L.row
    refine whileF (TfW K x p D num ws (.str (if due = true then "N" else "X")) H Q E) m ⟨[g], [(y, a, b)], k + 1, none, none, none, rfl, (fun e => by cases e), upd_same, .cons (A1.same sD) .nil (by simp [ownT]) (by simp [ownT]) (by simp [ownT]), ?_, ?_, L1.same sD, b1.same sD, ?_, ?_, ?_, q⟩ ?_
    · have := (Stk.cons A1 .nil (by simp [ownT]) (by simp [ownT]) (by simp [ownT])).old nD
      exact this
    · intro z hz
      simp only [ownT, List.mem_cons, List.not_mem_nil, or_false] at hz
      rcases hz with rfl | rfl | rfl
      · exact ny
      · exact na
      · exact nb
    · intro h hh
      rw [List.mem_singleton.mp hh]
      exact bz.1
    · simp only [szP]
      omega
    · simp only [szD]
      omega
    rintro m σ H2 ⟨S, ts, k, v3, v4, v5, rfl, nS, hD, st, nDo, nw, L2, b2, hdu, z1, z2, q2⟩ A B hA hB
    obtain ⟨m, rfl⟩ := q2.zero
    walk_at "rd"
    have kw : k ≤ 100000 := Nat.le_trans L2.kle L2.many
    cases st with
    | nil => exact absurd rfl nS
    | @cons y a b h ts S A1 st n1 n2 n3 =>
      obtain ⟨hd, du, ps⟩ := h
      obtain ⟨d2, hy⟩ := A1.ins
      obtain ⟨vs, hb, hv⟩ := A1.ps
      have ha := A1.du
      have hnl := A1.nl
      have lps := hv.len
      simp only [szP, szD] at z1 z2
      simp only [ownT, List.mem_cons, not_or] at nDo
      obtain ⟨nDy, nDa, nDb, nDt⟩ := nDo
      have nwy := nw y (by simp [ownT])
      have nwa := nw a (by simp [ownT])
      have nwb := nw b (by simp [ownT])
      have fx : ∀ z, H z = none → z ≠ x := fun z nz e => by
        obtain ⟨o, ho⟩ := hx0
        rw [e, ho] at nz
        cases nz
      have fp : ∀ z, H z = none → p ≠ z := fun z nz e => by
        rw [← e, hp0] at nz
        cases nz
      refine hA _ ?_
      rw [refsT_cons] at hD
      walk_at "rd"
      refine ⟨_, hD, .ref y, atI_last, y, rfl, _, _, _, hy, T.cl_HalfForm, T.n_HalfForm_dues, .ref a, rfl, !(ms du).isEmpty, .inl ⟨_, .inl (.inl ha), rfl⟩, ?_⟩
      cases du with
      | nil =>
        refine Fx.ifF (by decide) ⟨.inl ⟨rfl, _, .inl (.inl hD)⟩, D, _, .ref y, rfl, rfl, hD, by simp, ?_⟩
        rw [List.dropLast_concat]
        have bD : But D H2 (upd H2 D (.lst (refsT ts))) := butU
        have A2 := A1.keep bD (Ne.symm nDy) (Ne.symm nDa) (Ne.symm nDb) (fun xs e => by rw [hD] at e; cases e)
        have st2 := st.keep bD (fun xs e => by rw [hD] at e; cases e) nDt
        have L3 := L2.but bD (fx D hD0).symm (fp D hD0)
        have b3 : But x H (upd H2 D (.lst (refsT ts))) := fun c o hc e => bD _ _ (fun z => by rw [z, hD0] at e; cases e) (b2 _ _ hc e)
        obtain ⟨d3, hy3⟩ := A2.ins
        refine ⟨_, .inl ⟨_, .inl (.inl upd_same), rfl⟩, ?_⟩
        cases st2 with
        | nil =>
          rw [go_done (show stp ws _ k = .done _ k from rfl)] at q2
          refine Fx.ifT rfl ⟨y, rfl, _, _, hy3, rfl, y, a, b, _, rfl, A2, ?_, fun H4 v s4 dv => q2 H4 v (b3.same s4) (L3.same s4) dv⟩
          show ps.length ≤ 400000
          omega
        | @cons y2 a2 b2' g2 ts2 S2 B1 st3 o1 o2 o3 =>
          obtain ⟨e2, hy2⟩ := B1.ins
          obtain ⟨vs2, hb2, hv2⟩ := B1.ps
          have hl2 := hv2.len
          simp only [szP, szD] at z1 z2
          have nwb2 := nw b2' (by simp [ownT])
          have nDt2 := nDt
          simp only [ownT, List.mem_cons, not_or] at nDt2
          rw [go_run (show stp ws _ k = .run (⟨g2.hd, g2.du, g2.ps ++ [Hf.whole ⟨hd, [], ps⟩]⟩ :: S2) k from rfl)] at q2
          refine Fx.ifF (by rw [refsT_cons]; simp) ⟨_, upd_same, .ref y2, by rw [refsT_cons]; exact atI_last, y2, rfl, _, _, _, hy2, T.cl_HalfForm, T.n_HalfForm_read_parts_now, .ref b2', rfl, .inl ⟨rfl, _, .inl (.inl hb2)⟩, y, rfl, _, _, hy3, rfl, y, a, b, _, rfl, A2, ?_, fun H4 v s4 dv => ⟨b2', rfl, vs2, s4 _ _ hb2, ?_, m, Nat.lt_succ_self m, ?_⟩⟩
          · show ps.length ≤ 400000
            omega
          · exact Nat.lt_of_le_of_lt (show vs2.length ≤ 400000 by omega) (by decide)
          have hb4 := s4 _ _ hb2
          have bb : But b2' H4 (upd H4 b2' (.lst (vs2 ++ [v]))) := butU
          have yb : y2 ≠ b2' := ne_of hy2 hb2 (by intro z; cases z)
          have nw2 : noLs [Hf.whole ⟨hd, [], ps⟩] = true := by
            rw [noLs, noL_whole hnl]
            rfl
          refine ⟨⟨g2.hd, g2.du, g2.ps ++ [Hf.whole ⟨hd, [], ps⟩]⟩ :: S2, (y2, a2, b2') :: ts2, k, _, _, _, rfl, (fun e => by cases e), ?_, .cons ⟨⟨e2, bb _ _ yb (s4 _ _ hy2)⟩, bb _ _ B1.ne (s4 _ _ B1.du), ⟨vs2 ++ [v], upd_same, ?_⟩, noLs_app B1.nl nw2, B1.ne⟩ ((st3.same s4).keep bb (fun xs e => by rw [hb4] at e; cases e) o3) o1 o2 o3, nDt, fun z hz => nw z ?_, (L3.same s4).but bb (fx _ nwb2).symm (fp _ nwb2), fun c o hc e => bb _ _ (fun z => by rw [z, nwb2] at e; cases e) (s4 _ _ (b3 _ _ hc e)), ?_, ?_, ?_, q2⟩
          · exact bb _ _ nDt2.2.2.1 (s4 _ _ upd_same)
          · exact ((hv2.same s4).putL B1.nl hb4).app (.cons (dv.putL (noL_whole hnl) hb4) .nil)
          · simp only [ownT, List.mem_cons] at hz ⊢
            exact .inr (.inr (.inr hz))
          · intro h hh u hu
            rcases List.mem_cons.mp hh with rfl | hh
            · exact hdu g2 (by simp) u hu
            · exact hdu h (by simp [hh]) u hu
          · simp only [szP, List.length_append, List.length_cons, List.length_nil]
            omega
          · simp only [szD]
            simp only [List.length_nil] at z2
            omega
      | cons kd r =>
        refine Fx.ifT rfl ⟨y, rfl, _, _, _, hy, T.cl_HalfForm, T.n_HalfForm_dues, .ref a, rfl, .inl ⟨rfl, _, .inl (.inl ha)⟩, a, rfl, _, ha, by decide, by decide, 0, ?_, .str kd, rfl, by decide, fun c nc => ⟨kd, rfl, ["N", "X"], .inr upd_same, ?_⟩⟩
        · unfold seqIndex?
          simp [ms]
        rw [show (ms (Hf.du ⟨hd, kd :: r, ps⟩)).eraseIdx 0 = ms r from rfl] at nc ⊢
        have ya : y ≠ a := fun e => by
          rw [e, ha] at hy
          cases hy
        have nta : ∀ xs, H2 a ≠ some (.tup xs) := fun xs e => by
          rw [ha] at e
          cases e
        have bA : But a H2 (upd H2 a (.lst (ms r))) := butU
        have sC := same_new (o := .tup [.str "N", .str "X"]) nc
        have A4 : HfA K _ y a b ⟨hd, r, ps⟩ := HfA.same ⟨⟨d2, bA _ _ ya hy⟩, upd_same, ⟨vs, bA _ _ A1.ne.symm hb, hv.putL hnl ha⟩, hnl, A1.ne⟩ sC
        have st4 := (st.keep bA nta n2).same sC
        have hD4 := sC _ _ (bA _ _ nDa hD)
        have L4 := (L2.but bA (fx a nwa).symm (fp a nwa)).same sC
        have b4 : But x H _ := But.same (fun c o hc e => bA _ _ (fun z => by rw [z, nwa] at e; cases e) (b2 _ _ hc e)) sC
        have whole4 := Stk.cons A4 st4 n1 n2 n3
        obtain ⟨dx4, hx4⟩ := L4.ins
        have f4 : ∀ z, (upd (upd H2 a (.lst (ms r))) c (.tup [.str "N", .str "X"])) z = none → z ≠ x := fun z nz e => by
          rw [e, hx4] at nz
          cases nz
        have duk := hdu ⟨hd, kd :: r, ps⟩ List.mem_cons_self kd List.mem_cons_self
        have dur : ∀ h ∈ (⟨hd, r, ps⟩ :: S : List Hf), ∀ u ∈ h.du, u ∈ duesK := fun h hh u hu => by
          rcases List.mem_cons.mp hh with rfl | hh
          · exact hdu ⟨hd, kd :: r, ps⟩ List.mem_cons_self u (List.mem_cons_of_mem _ hu)
          · exact hdu h (List.mem_cons_of_mem _ hh) u hu
        simp only [List.length_cons] at z2
        refine ite_i (fun hkd => ?_) (fun hkd => ?_)
        · have f2 : isF2 kd = true := decide_eq_true (by simpa using hkd)
          have es : stp ws (⟨hd, kd :: r, ps⟩ :: S) k = (match beg ws k (decide (kd = "N")) with
            | some g => .run (g :: ⟨hd, r, ps⟩ :: S) (k + 1)
            | none => .err (k + 1)) := if_pos f2
          have ek : V.str kd = .str (if decide (kd = "N") = true then "N" else "X") := by
            simp only [List.mem_cons, List.not_mem_nil, or_false] at hkd
            rcases hkd with rfl | rfl
            · rfl
            · rfl
          refine ⟨.inl ⟨rfl, _, .inl (.inl hD4)⟩, x, p, num, ws, k, decide (kd = "N"), by rw [ek], L4, wo, fun e => ?_, fun g' eg' y' a' b' H5 b5 L5 A5 ny' na' nb' => ⟨_, b5 _ _ nD0 hD4, ?_, m, Nat.lt_succ_self m, ?_⟩⟩
          · rw [e] at es
            rw [go_err es] at q2
            exact Raised.weak q2 b4 L4.at
          · have := st.len
            have l2 := szP_len S
            rw [List.length_append, refsT_len]
            simp only [List.length_cons, List.length_nil]
            exact Nat.lt_of_le_of_lt (show ts.length + 1 ≤ 400000 by omega) (by decide)
          · rw [eg'] at es
            rw [go_run es] at q2
            have bz := beg_sz eg'
            have ny0 := b4.free (f4 y' ny') ny'
            have na0 := b4.free (f4 a' na') na'
            have nb0 := b4.free (f4 b' nb') nb'
            have dn : ∀ z, (upd (upd H2 a (.lst (ms r))) c (.tup [.str "N", .str "X"])) z = none → z ≠ D := fun z nz e => by
              rw [e, hD4] at nz
              cases nz
            have hD5 := b5 _ _ nD0 hD4
            have ntD : ∀ xs, H5 D ≠ some (.tup xs) := fun xs e => by
              rw [hD5] at e
              cases e
            have bD : But D H5 (upd H5 D (.lst (refsT ts ++ [V.ref y] ++ [V.ref y']))) := butU
            have nDo : D ∉ ownT ((y, a, b) :: ts) := by
              simp only [ownT, List.mem_cons, not_or]
              exact ⟨nDy, nDa, nDb, nDt⟩
            refine ⟨g' :: ⟨hd, r, ps⟩ :: S, (y', a', b') :: (y, a, b) :: ts, k + 1, _, _, _, rfl, (fun e => by cases e), ?_, .cons (A5.keep bD (dn y' ny') (dn a' na') (dn b' nb') ntD) (Stk.keep bD ntD (Stk.keep b5 (fun xs e => by rw [hx4] at e; cases e) whole4 (fun h => fx x (nw x h) rfl)) nDo) (whole4.old ny') (whole4.old na') (whole4.old nb'), ?_, ?_, L5.but bD (fx D hD0).symm (fp D hD0), fun c' o hc e => bD _ _ (fun z => by rw [z, hD0] at e; cases e) (b5 _ _ hc (b4 _ _ hc e)), ?_, ?_, ?_, q2⟩
            · rw [refsT_cons, refsT_cons]
              exact upd_same
            · rw [ownT]
              simp only [List.mem_cons (a := D), not_or]
              exact ⟨(dn y' ny').symm, (dn a' na').symm, (dn b' nb').symm, by simpa only [List.mem_cons, not_or] using nDo⟩
            · intro z hz
              rw [ownT] at hz
              rcases List.mem_cons.mp hz with rfl | hz
              · exact ny0
              rcases List.mem_cons.mp hz with rfl | hz
              · exact na0
              rcases List.mem_cons.mp hz with rfl | hz
              · exact nb0
              exact nw z hz
            · intro h hh u hu
              rcases List.mem_cons.mp hh with rfl | hh
              · exact bz.1 u hu
              · exact dur h hh u hu
            · simp only [szP]
              omega
            · simp only [szD]
              omega
        · have f2 : isF2 kd = false := decide_eq_false (by simpa using hkd)
          have hk : kd ∈ takeKinds := (List.mem_append.mp duk).resolve_left hkd
          obtain ⟨d4, hy4⟩ := A4.ins
          obtain ⟨vs4, hb4, hv4⟩ := A4.ps
          have lv4 := hv4.len
          have bx := fx b nwb
          refine ⟨y, rfl, _, _, _, hy4, T.cl_HalfForm, T.n_HalfForm_read_parts_now, .ref b, rfl, .inl ⟨rfl, _, .inl (.inl hb4)⟩, _, _, hx4, rfl, x, p, num, ws, k, kd, rfl, hk, L4, wo, fun d hd5 H5 b5 L5 => ⟨b, rfl, vs4, b5 _ _ bx hb4, ?_, rfl, ?_⟩, fun e => ?_⟩
          · exact Nat.lt_of_le_of_lt (show vs4.length ≤ 400000 by rw [lv4]; show ps.length ≤ 400000; omega) (by decide)
          · have A5 := A4.keep b5 (fx y nwy) (fx a nwa) bx (fun xs e => by rw [hx4] at e; cases e)
            have st5 := st4.keep b5 (fun xs e => by rw [hx4] at e; cases e) (fun h => fx x (nw x (by simp [ownT, h])) rfl)
            have hb5 := b5 _ _ bx hb4
            have hD5 := b5 _ _ nD0 hD4
            have bB : But b H5 (upd H5 b (.lst (vs4 ++ [vD d]))) := butU
            have ntb : ∀ xs, H5 b ≠ some (.tup xs) := fun xs e => by
              rw [hb5] at e
              cases e
            obtain ⟨w, hw, ht⟩ : ∃ w, ws[k]? = some w ∧ takeS kd w = some d := by
              cases e : ws[k]? with
              | none => rw [e] at hd5; cases hd5
              | some w => rw [e] at hd5; exact ⟨w, rfl, hd5⟩
            have nld : noLs [d] = true := by
              rw [noLs, vD_nl ht]
              rfl
            have hv5 : DvAll H5 vs4 ps := DvAll.mapT (fun z xs e => b5 _ _ (fun q => by rw [q, hx4] at e; cases e) e) _ _ hnl hv4
            have st6 := st5.keep bB ntb n3
            have hD6 := bB _ _ nDb hD5
            have L6 := L5.but bB (fx b nwb).symm (fp b nwb)
            have b6 : But x H (upd H5 b (.lst (vs4 ++ [vD d]))) := fun c' o hc e => bB _ _ (fun z => by rw [z, nwb] at e; cases e) (b5 _ _ hc (b4 _ _ hc e))
            have A6 : HfA K (upd H5 b (.lst (vs4 ++ [vD d]))) y a b ⟨hd, r, ps ++ [d]⟩ := ⟨⟨d4, bB _ _ (ne_of hy4 hb4 (by intro z; cases z)) (b5 _ _ (fx y nwy) hy4)⟩, bB _ _ A4.ne (b5 _ _ (fx a nwa) A4.du), ⟨_, upd_same, (hv5.putL hnl hb5).app (.cons ((vD_dv ht)) .nil)⟩, noLs_app hnl nld, A4.ne⟩
            refine ite_i (fun hp => ?_) (fun hp => ?_)
            · have ekd : kd = "params" := V.str.inj hp
              subst ekd
              obtain ⟨z, rfl, lz⟩ := take_pr2 ht
              have lz2 : z.cps.toList.length = z.length := Array.length_toList
              rw [go_run (stp_paramsK hw ht)] at q2
              obtain ⟨d6, hy6⟩ := A6.ins
              refine ⟨y, rfl, _, _, _, hy6, T.cl_HalfForm, T.n_HalfForm_dues, .ref a, rfl, .inl ⟨rfl, _, .inl (.inl A6.du)⟩, ?_⟩
              refine ⟨.ref y, rfl, y, _, _, _, .ref b, rfl, hy6, T.cl_HalfForm, T.n_HalfForm_read_parts_now, rfl, 1, rfl, b, -1, _, rfl, rfl, upd_same, .str z, atI_last, z, rfl, fun F nF => ?_⟩
              have hA6 := A6.du
              refine lc_S (z := z) (fun i H7 => H7 = upd (upd H5 b (.lst (vs4 ++ [vD (.str z)]))) F (.lst (ms ((prKinds z).take i)))) rfl ?_ ?_
              · rintro i c7 H7 hc rfl
                refine ⟨rfl, ?_⟩
                have hil := (List.getElem?_eq_some_iff.mp hc).1
                have ei : (prKinds z)[i]? = some ((if c7 ∈ ltrN then ("N" : Str) else ("X" : Str)) : Str) := by
                  unfold prKinds
                  rw [List.getElem?_map, hc]
                  rfl
                have eC : ("abcd" : Str).cps.toList = ltrN := by decide +kernel
                have fin : ∀ u : Str, u = ((if c7 ∈ ltrN then ("N" : Str) else ("X" : Str)) : Str) → ∃ acc, (upd (upd H5 b (.lst (vs4 ++ [vD (.str z)]))) F (.lst (ms ((prKinds z).take i)))) F = some (.lst acc) ∧ acc.length < sizeLine ∧ upd (upd (upd H5 b (.lst (vs4 ++ [vD (.str z)]))) F (.lst (ms ((prKinds z).take i)))) F (.lst (acc ++ [V.str u])) = upd (upd H5 b (.lst (vs4 ++ [vD (.str z)]))) F (.lst (ms ((prKinds z).take (i + 1)))) := fun u hu => by
                  refine ⟨_, upd_same, ?_, ?_⟩
                  · unfold ms
                    rw [List.length_map, List.length_take]
                    exact Nat.lt_of_le_of_lt (show _ ≤ 10 by omega) (by decide)
                  · rw [upd_upd, List.take_add_one, ei, ← hu]
                    unfold ms
                    rw [List.map_append]
                    rfl
                walk_at "rd"
                refine ⟨c7, rfl, ?_⟩
                rw [eC]
                refine ite_i (fun hc7 => ?_) (fun hc7 => ?_)
                · have := fin "N" (by rw [if_pos hc7])
                  simpa only [upd_same, Option.some.injEq, HO.lst.injEq, exists_eq_left'] using this
                · have := fin "X" (by rw [if_neg hc7])
                  simpa only [upd_same, Option.some.injEq, HO.lst.injEq, exists_eq_left'] using this
              · rintro H7 rfl
                have ep : (prKinds z).take z.cps.toList.length = prKinds z := List.take_of_length_le (by unfold prKinds; rw [List.length_map]; exact Nat.le_refl _)
                have pl : (prKinds z).length ≤ 3 := by
                  unfold prKinds
                  rw [List.length_map, lz2]
                  exact lz
                rw [ep]
                have s7 := same_new (o := .lst (ms (prKinds z))) nF
                have hA7 := s7 _ _ hA6
                obtain ⟨vs6, hb6, hv6⟩ := A6.ps
                refine ⟨a, rfl, F, rfl, _, hA7, _, upd_same, ?_, m, Nat.lt_succ_self m, ?_⟩
                · unfold ms
                  rw [List.length_map, List.length_map]
                  exact Nat.le_trans (show r.length + (prKinds z).length ≤ 2000000 by omega) (by decide)
                have bA8 : But a (upd (upd H5 b (.lst (vs4 ++ [vD (.str z)]))) F (.lst (ms (prKinds z)))) (upd (upd (upd H5 b (.lst (vs4 ++ [vD (.str z)]))) F (.lst (ms (prKinds z)))) a (.lst (ms r ++ ms (prKinds z)))) := butU
                have nta8 : ∀ xs, (upd (upd H5 b (.lst (vs4 ++ [vD (.str z)]))) F (.lst (ms (prKinds z)))) a ≠ some (.tup xs) := fun xs e => by
                  rw [hA7] at e
                  cases e
                refine ⟨⟨hd, r ++ prKinds z, ps ++ [.str z]⟩ :: S, (y, a, b) :: ts, k + 1, _, _, _, rfl, (fun e => by cases e), ?_, .cons ⟨⟨d6, bA8 _ _ ya (s7 _ _ hy6)⟩, ?_, ⟨vs6, bA8 _ _ A6.ne.symm (s7 _ _ hb6), (hv6.same s7).putL A6.nl hA7⟩, A6.nl, A6.ne⟩ ((st6.same s7).keep bA8 nta8 n2) n1 n2 n3, ?_, nw, (L6.same s7).but bA8 (fx a nwa).symm (fp a nwa), fun c' o hc e => bA8 _ _ (fun z => by rw [z, nwa] at e; cases e) (s7 _ _ (b6 _ _ hc e)), ?_, ?_, ?_, q2⟩
                · rw [refsT_cons]
                  exact bA8 _ _ nDa (s7 _ _ hD6)
                · rw [upd_same]
                  unfold ms
                  rw [List.map_append]
                · simp only [ownT, List.mem_cons, not_or]
                  exact ⟨nDy, nDa, nDb, nDt⟩
                · intro h hh u hu
                  rcases List.mem_cons.mp hh with rfl | hh
                  · rcases List.mem_append.mp hu with hu | hu
                    · exact dur ⟨hd, r, ps⟩ List.mem_cons_self u hu
                    · unfold prKinds at hu
                      obtain ⟨c9, _, rfl⟩ := List.mem_map.mp hu
                      by_cases g : c9 ∈ ltrN
                      · rw [if_pos g]
                        decide +kernel
                      · rw [if_neg g]
                        decide +kernel
                  · exact dur h (List.mem_cons_of_mem _ hh) u hu
                · simp only [szP, List.length_append, List.length_cons, List.length_nil]
                  omega
                · simp only [szD, List.length_append]
                  omega
            · have np : kd ≠ "params" := fun e => hp (by rw [e])
              rw [go_run (stp_smallK f2 np hw ht)] at q2
              refine ⟨m, Nat.lt_succ_self m, ⟨hd, r, ps ++ [d]⟩ :: S, (y, a, b) :: ts, k + 1, _, _, _, rfl, (fun e => by cases e), ?_, .cons A6 st6 n1 n2 n3, ?_, nw, L6, b6, ?_, ?_, ?_, q2⟩
              · rw [refsT_cons]
                exact hD6
              · simp only [ownT, List.mem_cons, not_or]
                exact ⟨nDy, nDa, nDb, nDt⟩
              · intro h hh u hu
                rcases List.mem_cons.mp hh with rfl | hh
                · exact dur ⟨hd, r, ps⟩ List.mem_cons_self u hu
                · exact dur h (List.mem_cons_of_mem _ hh) u hu
              · simp only [szP, List.length_append, List.length_cons, List.length_nil]
                omega
              · simp only [szD]
                omega
          · rw [go_err (stp_small f2 e)] at q2
            exact Raised.weak q2 b4 L4.at
end
section
variable {P : Program} {w : World} {K : PySem.W.Frag} {mg : Str → Option Value} {base : Heap}
theorem ok_read_form (S : Src K mg "read_form" s_read_form) (T : Tx P K mg) (TD : Td w K) (C_LineWords_MU_initU : CalI P w K mg base CX0 2 (He.ga K "LineWords") ["self", "number", "line"] (spLWI K)) (C_take_form : Cal P w K mg base (L2.CX P w) 7 "take_form" ["line", "due"] (spTakeForm K)) (C_LineWords_M_shut : CalM P w K mg base (L2.CX P w) 3 (He.ga K "LineWords") "shut" ["self"] (spShut K))  : Cal P w K mg base (L2.CX P w) 8 "read_form" ["text", "due"] (spReadForm K) := by
  refine S.calX sc_read_form bn_read_form (fun vs H Q E h => ?_) (fun f cdv A outer s H vs Q E hr h => ?_)
  · first | (obtain ⟨rfl, _⟩ := h; rfl) | (obtain ⟨_, rfl, _⟩ := h; rfl) | (obtain ⟨_, _, rfl, _⟩ := h; rfl) | (obtain ⟨_, _, _, rfl, _⟩ := h; rfl) | (obtain ⟨_, _, _, _, rfl, _⟩ := h; rfl) | (obtain ⟨_, _, _, _, _, rfl, _⟩ := h; rfl) | (obtain ⟨_, _, _, _, _, _, rfl, _⟩ := h; rfl) | (obtain ⟨_, _, _, _, _, _, _, rfl, _⟩ := h; rfl) | (obtain ⟨_, _, _, _, _, _, _, _, rfl, _⟩ := h; rfl) | (obtain ⟨_, _, _, _, _, _, _, _, _, rfl, _⟩ := h; rfl) | (obtain ⟨_, _, _, _, _, _, _, _, _, _, rfl, _⟩ := h; rfl) | (obtain ⟨_, _, _, _, _, _, _, _, _, _, _, rfl, _⟩ := h; rfl) | (obtain ⟨_, _, _, _, _, _, _, _, _, _, _, _, rfl, _⟩ := h; rfl)
  · skip
    obtain ⟨f_LineWords_M_shut, fd_LineWords_M_shut, m_LineWords_M_shut, b_LineWords_M_shut, G_LineWords_M_shut⟩ := C_LineWords_M_shut.ex
    refine ⟨_, (pss_cons (ps_set (i := 2) sc_read_form.nd rfl (Or.inl rfl) (Fx.pe_mk C_LineWords_MU_initU (hr.mono (by decide)) T.g_LineWords pass0 (Fx.pa_c pe_int (Fx.pa_c (pv 0) pa_nil))))
        (pss_cons (ps_if (pt_cmpR op_eq (pv 1) pe_str (nomark _)) (pss_one (ps_set (i := 3) sc_read_form.nd rfl (Or.inl rfl) (Fx.pe_cal C_take_form (hr.mono (by decide)) (passes_call (takes_of rfl rfl rfl rfl) (fun _ _ _ _ z => z)) (Fx.pa_c (pv 2) (Fx.pa_c pe_str pa_nil))))) (pss_one (ps_set (i := 3) sc_read_form.nd rfl (Or.inl rfl) (Fx.pe_cal C_take_form (hr.mono (by decide)) (passes_call (takes_of rfl rfl rfl rfl) (fun _ _ _ _ z => z)) (Fx.pa_c (pv 2) (Fx.pa_c pe_str pa_nil))))))
        (pss_cons (ps_expr (pe_meth0 (pv 2) T.cl_LineWords m_LineWords_M_shut G_LineWords_M_shut (hr.mono (by decide)) b_LineWords_M_shut .nil (passes_call (takes_of rfl rfl rfl rfl) (fun _ _ _ _ z => z))))
        (pss_one (ps_ret (pv 3)))))), ?_⟩
    obtain ⟨z, due, rfl, hz, wo, q⟩ := h
    refine seqI fun K1 k1 => ?_
    walk_at "rd"
    intro x dx nx ndx ne
    have sd := same_new (o := .own x) ndx
    have nx2 : (upd H dx (.own x)) x = none := by rw [upd_ne (fun e => ne e.symm)]; exact nx
    have s1 := sd.trans (same_new (o := .ins (He.ga K "LineWords") dx []) nx2)
    refine ⟨x, dx, 1, z, rfl, upd_same, hz, fun p H1 b1 np L1 => ⟨rfl, ?_⟩⟩
    have sH : Same H H1 := same_but s1 nx b1
    have sB : ∀ {H2 : Hp}, But x H1 H2 → Same H H2 := fun b => same_but sH nx b
    refine k1 _ _ ?_
    clear k1
    refine seqI fun K2 k2 => ?_
    have tf : spTakeForm K [.ref x, .str (if due = true then "N" else "X")] H1 (fun v H2 => K2 [some (.str z), some (.str (if due = true then "number" else "thing")), some (.ref x), some v] H2) E := by
      have cont : ∀ (k : Nat) (v : V) (H2 : Hp), But x H1 H2 → LW K H2 x p 1 (wordsOf z) k → (k < (wordsOf z).length → Raised K x 1 (k + 1) H2 E) → (k = (wordsOf z).length → Q v H2) → K2 [some (.str z), some (.str (if due = true then "number" else "thing")), some (.ref x), some v] H2 := by
        intro k v H2 b2 L2 r1 r2
        obtain ⟨d2, hx2⟩ := L2.ins
        refine k2 _ _ ?_
        walk_at "rd"
        refine ⟨_, _, hx2, rfl, x, p, 1, wordsOf z, k, rfl, L2, r1, r2⟩
      rcases q with ⟨d, ⟨g, n, eg, en⟩, qq⟩ | ⟨e, re, qq⟩
      · refine ⟨x, p, 1, wordsOf z, 0, n, due, rfl, L1, wo, ?_⟩
        rw [eg]
        show MsOk K x p 1 (wordsOf z) (go (wordsOf z) n [g] 1) H1 _ E
        rw [en]
        exact fun H2 v b2 L2 dv => cont _ v H2 b2 L2 (fun h => absurd h (Nat.lt_irrefl _)) fun _ => qq H2 v (sB b2) dv
      · have rz : ∀ H2, But x H1 H2 → Raised K x 1 e H2 E := fun H2 b2 c H' b' nc hc => qq c H' (sB (b2.trans b')) (by
          cases ec : H c with
          | none => rfl
          | some o => rw [sB b2 _ _ ec] at nc; cases nc) hc
        rcases re with ⟨eb, rfl⟩ | ⟨g, n, eg, en | ⟨d, k, en, kl, rfl⟩⟩
        · refine ⟨x, p, 1, wordsOf z, 0, 0, due, rfl, L1, wo, ?_⟩
          rw [eb]
          exact rz H1 (fun c o _ h => h)
        · refine ⟨x, p, 1, wordsOf z, 0, n, due, rfl, L1, wo, ?_⟩
          rw [eg]
          show MsOk K x p 1 (wordsOf z) (go (wordsOf z) n [g] 1) H1 _ E
          rw [en]
          exact rz H1 (fun c o _ h => h)
        · refine ⟨x, p, 1, wordsOf z, 0, n, due, rfl, L1, wo, ?_⟩
          rw [eg]
          show MsOk K x p 1 (wordsOf z) (go (wordsOf z) n [g] 1) H1 _ E
          rw [en]
          exact fun H2 v b2 L2 dv => cont k v H2 b2 L2 (fun _ => rz H2 b2) (fun h => absurd kl (by omega))
    walk_at "rd"
    cases due
    · exact Fx.ifF (by decide) tf
    · exact Fx.ifT rfl tf
end
section
variable {P : Program} {w : World} {K : PySem.W.Frag} {mg : Str → Option Value} {base : Heap}
theorem ok__law_bag (S : Src K mg "_law_bag" s__law_bag) (T : Tx P K mg) (TD : Td w K)   : Cal P w K mg base CX0 1 "_law_bag" ["_law_script"] (spBag K) := by
  refine S.cal sc__law_bag bn__law_bag (fun vs H Q E h => ?_) (fun f cdv A outer s H vs Q E hr h => ?_)
  · first | (obtain ⟨rfl, _⟩ := h; rfl) | (obtain ⟨_, rfl, _⟩ := h; rfl) | (obtain ⟨_, _, rfl, _⟩ := h; rfl) | (obtain ⟨_, _, _, rfl, _⟩ := h; rfl) | (obtain ⟨_, _, _, _, rfl, _⟩ := h; rfl) | (obtain ⟨_, _, _, _, _, rfl, _⟩ := h; rfl) | (obtain ⟨_, _, _, _, _, _, rfl, _⟩ := h; rfl) | (obtain ⟨_, _, _, _, _, _, _, rfl, _⟩ := h; rfl) | (obtain ⟨_, _, _, _, _, _, _, _, rfl, _⟩ := h; rfl) | (obtain ⟨_, _, _, _, _, _, _, _, _, rfl, _⟩ := h; rfl) | (obtain ⟨_, _, _, _, _, _, _, _, _, _, rfl, _⟩ := h; rfl) | (obtain ⟨_, _, _, _, _, _, _, _, _, _, _, rfl, _⟩ := h; rfl) | (obtain ⟨_, _, _, _, _, _, _, _, _, _, _, _, rfl, _⟩ := h; rfl)
  · skip
    refine ⟨_, (pss_cons (ps_set (i := 1) sc__law_bag.nd rfl (Or.inl rfl) pe_int)
        (pss_cons (ps_for PassesOwn.never rfl (pi_list (pv 0)) (pg_name (i := 2) sc__law_bag.nd rfl (Or.inl rfl)) (pss_one (ps_set (i := 1) sc__law_bag.nd rfl (Or.inl rfl) (pe_op op_mod (Fx.pe_cTy Fx.int_I T.b_int (by decide +kernel) (Fx.pa_c (pe_op op_add (pe_op op_add (pe_op op_mul (pv 1) pe_int) (pv 2)) pe_int) pa_nil)) pe_int))))
        (pss_one (ps_ret (pe_disp (pps_cons pe_str (pe_lc (own := [("_law_cell", 2)]) rfl sc__law_bag.nd (pi_list (pv 0)) (blkOk_by (N := N__law_bag) (sc := defScope s__law_bag) (by decide +kernel)) (fun _ _ _ _ _ => (pg_name (i := 2) sc__law_bag.nd rfl (Or.inl rfl))) (fun _ _ _ _ _ => pts_nil) (fun _ _ _ _ _ => (pv 2))) (pps_cons pe_str pe_int (pps_cons pe_str pe_int (pps_cons pe_str (pv 1) (pps_cons pe_str pe_int pps_nil))))) (by rfl) (by rfl) (fun z => by cases z) (by decide)))))), ?_⟩
    obtain ⟨a, ns, rfl, hS, hlen, q⟩ := h
    refine seqI fun K1 k1 => ?_
    walk_at "rd"
    refine k1 _ _ ?_
    refine seqI fun K2 k2 => ?_
    refine ⟨_, rfl, a, rfl, ⟨_, hS⟩, for_list (K := K) (a := a) (xs := ns.map V.int) (fun i σ H' => ∃ (m : Int) (v : Option V), σ = [some (.ref a), some (.int m), v] ∧ H' = H) ⟨7, none, rfl, rfl⟩ (fun i σ H' _ ⟨_, _, _, e⟩ => by rw [e]; exact hS) ?_ ?_⟩
    · rintro i y σ H' hi ⟨m, v, rfl, rfl⟩
      obtain ⟨z, rfl⟩ : ∃ z, y = V.int z := by
        rw [List.getElem?_map] at hi
        cases e : ns[i]? with
        | none => rw [e] at hi; cases hi
        | some z => rw [e] at hi; exact ⟨z, (Option.some.inj hi).symm⟩
      walk_at "rd"
      exact ⟨.inr ⟨by decide, by decide⟩, by decide⟩
    · rintro σ H' ⟨m, v, rfl, rfl⟩
      refine k2 _ _ ?_
      intro p np
      refine ⟨.ref a, rfl, a, rfl, ⟨_, (same_new np).seq hS⟩, fun D hD => ?_⟩
      have hDp : D ≠ p := fun e => by rw [e, upd_same] at hD; cases hD
      refine lc_list (K := K) (a := a) (xs := ns.map V.int) (fun i H2 => H2 = upd (upd H' p (.dK [])) D (.lst ((ns.map V.int).take i))) rfl (fun i H2 _ e => ?_) ?_ ?_
      · rw [e]
        exact ((same_new np).trans (same_new hD)).seq hS
      · rintro i x H2 hx rfl
        refine ⟨rfl, ?_⟩
        walk_at "rd"
        refine ⟨?_, ?_⟩
        · rw [List.length_take]
          exact Nat.lt_of_le_of_lt (Nat.min_le_right _ _) (by rw [List.length_map]; exact Nat.lt_of_le_of_lt hlen (by decide))
        · rw [upd_upd, List.take_add_one, hx]
          rfl
      · rintro H2 rfl
        simp only [tPairs]
        walk_at "rd"
        have hpD : p ≠ D := fun e => hDp e.symm
        refine ⟨by rw [upd_ne hpD, upd_same], [(.inr "cells", .ref D), (.inr "at", .int 0), (.inr "rest", .int 0), (.inr "mixed", .int m), (.inr "count", .int 0)], rfl, (show 5 ≤ 15 by decide), ?_⟩
        refine q p _ (fun b o e => ?_) np ⟨D, false, ns, 0, 0, m, 0, none, upd_same, rfl, ?_, by decide⟩
        · rw [upd_ne (ne_of_none e np), upd_ne (ne_of_none (same_new np (o := .dK []) b o e) hD), upd_ne (ne_of_none e np)]
          exact e
        · rw [upd_ne hDp, upd_same, List.take_length]
end
section
variable {P : Program} {w : World} {K : PySem.W.Frag} {mg : Str → Option Value} {base : Heap}
theorem ok__law_pick (S : Src K mg "_law_pick" s__law_pick) (T : Tx P K mg) (TD : Td w K)   : Cal P w K mg base CX0 1 "_law_pick" ["_law_bag_here", "_law_many"] spPick := by
  refine S.cal sc__law_pick bn__law_pick (fun vs H Q E h => ?_) (fun f cdv A outer s H vs Q E hr h => ?_)
  · first | (obtain ⟨rfl, _⟩ := h; rfl) | (obtain ⟨_, rfl, _⟩ := h; rfl) | (obtain ⟨_, _, rfl, _⟩ := h; rfl) | (obtain ⟨_, _, _, rfl, _⟩ := h; rfl) | (obtain ⟨_, _, _, _, rfl, _⟩ := h; rfl) | (obtain ⟨_, _, _, _, _, rfl, _⟩ := h; rfl) | (obtain ⟨_, _, _, _, _, _, rfl, _⟩ := h; rfl) | (obtain ⟨_, _, _, _, _, _, _, rfl, _⟩ := h; rfl) | (obtain ⟨_, _, _, _, _, _, _, _, rfl, _⟩ := h; rfl) | (obtain ⟨_, _, _, _, _, _, _, _, _, rfl, _⟩ := h; rfl) | (obtain ⟨_, _, _, _, _, _, _, _, _, _, rfl, _⟩ := h; rfl) | (obtain ⟨_, _, _, _, _, _, _, _, _, _, _, rfl, _⟩ := h; rfl) | (obtain ⟨_, _, _, _, _, _, _, _, _, _, _, _, rfl, _⟩ := h; rfl)
  · skip
    refine ⟨_, (pss_cons (ps_dput (hu_of hr) (pv 0) pe_str (pe_op op_add (pe_dget (hu_of hr) (pv 0) pe_str (fun _ _ => rfl)) pe_int) rfl)
        (pss_cons (ps_if (pt_cmpR op_gt (pe_dget (hu_of hr) (pv 0) pe_str (fun _ _ => rfl)) pe_int (nomark _)) (pss_cons (ps_set (i := 2) sc__law_pick.nd rfl (Or.inl rfl) (pe_dget (hu_of hr) (pv 0) pe_str (fun _ _ => rfl)))
        (pss_cons (ps_dput (hu_of hr) (pv 0) pe_str (pe_op op_fdiv (pv 2) (pv 1)) rfl)
        (pss_one (ps_ret (pe_op op_mod (Fx.pe_cTy Fx.int_I T.b_int (by decide +kernel) (Fx.pa_c (pv 2) pa_nil)) (pv 1)))))) pss_nil)
        (pss_cons (ps_set (i := 3) sc__law_pick.nd rfl (Or.inl rfl) pe_int)
        (pss_cons (ps_if (pt_cmpR op_lt (pe_dget (hu_of hr) (pv 0) pe_str (fun _ _ => rfl)) (Fx.pe_cB Fx.len_L T.b_len (by decide +kernel) (Fx.pa_c (pe_dget (hu_of hr) (pv 0) pe_str (fun _ _ => rfl)) pa_nil)) (nomark _)) (pss_cons (ps_set (i := 3) sc__law_pick.nd rfl (Or.inl rfl) (pe_ix Fx.ix_L (pe_dget (hu_of hr) (pv 0) pe_str (fun _ _ => rfl)) (pe_dget (hu_of hr) (pv 0) pe_str (fun _ _ => rfl)) (fun _ _ => rfl)))
        (pss_cons (ps_dput (hu_of hr) (pv 0) pe_str (pe_op op_add (pe_dget (hu_of hr) (pv 0) pe_str (fun _ _ => rfl)) pe_int) rfl)
        (pss_one (ps_if (pt_cmpR op_ge (pv 3) (pe_op op_pow pe_int pe_int) (nomark _)) (pss_cons (ps_dput (hu_of hr) (pv 0) pe_str (pe_op op_fdiv (pv 3) (pv 1)) rfl)
        (pss_one (ps_ret (pe_op op_mod (Fx.pe_cTy Fx.int_I T.b_int (by decide +kernel) (Fx.pa_c (pv 3) pa_nil)) (pv 1))))) pss_nil)))) pss_nil)
        (pss_cons (ps_set (i := 2) sc__law_pick.nd rfl (Or.inl rfl) (pe_op op_mod (Fx.pe_cTy Fx.int_I T.b_int (by decide +kernel) (Fx.pa_c (pe_op op_add (pe_op op_add (pe_op op_mul (pv 3) pe_int) (pe_op op_mul (pe_dget (hu_of hr) (pv 0) pe_str (fun _ _ => rfl)) pe_int)) (pe_op op_mul (pe_dget (hu_of hr) (pv 0) pe_str (fun _ _ => rfl)) pe_int)) pa_nil)) pe_int))
        (pss_cons (ps_set (i := 2) sc__law_pick.nd rfl (Or.inl rfl) (pe_op op_mod (Fx.pe_cTy Fx.int_I T.b_int (by decide +kernel) (Fx.pa_c (pe_op op_add (pe_op op_mul (pv 2) pe_int) pe_int) pa_nil)) pe_int))
        (pss_cons (ps_dput (hu_of hr) (pv 0) pe_str (pe_op op_mod (Fx.pe_cTy Fx.int_I T.b_int (by decide +kernel) (Fx.pa_c (pv 2) pa_nil)) pe_int) rfl)
        (pss_one (ps_ret (pe_op op_mod (Fx.pe_cTy Fx.int_I T.b_int (by decide +kernel) (Fx.pa_c (pe_op op_fdiv (pv 2) pe_int) pa_nil)) (pv 1))))))))))), ?_⟩
    obtain ⟨b, many, rfl, ⟨c, t, ns, a, r, m, n, ro, hb, hro, hc, ha⟩, h0, h1, q⟩ := h
    have hcb : c ≠ b := ne_of hc hb (by intro z; cases z)
    have hu : ∀ o, upd H b o c = some (.lst (ns.map V.int)) := fun o => by rw [upd_ne hcb]; exact hc
    walk_at "rd"
    simp only [dget_s hb, dput_s hb bagR_len, dget_su, dput_su bagR_len, bagR_cells, bagR_at, bagR_rest, bagR_mixed, bagR_count, bagR_atP, bagR_restP, bagR_mixedP, bagR_countP, Option.some.injEq, exists_eq_left, exists_eq_left', V.int.injEq, V.ref.injEq, HO.lst.injEq, hu]
    have fin : ∀ (x y z u : Int) (vv : Int), 0 ≤ vv → vv < many → 0 ≤ x → Q (.int vv) (upd H b (.dK (bagKV c x y z u ++ roomKV ro))) := fun x y z u vv g1 g2 g3 =>
      q vv _ g1 g2 ⟨fun p o hp e => by rw [upd_ne hp]; exact e, ⟨c, t, ns, x, y, z, u, ro, upd_same, hro, hu _, g3⟩, fun c' t' ⟨ns', x', y', z', u', ro', e1, e2, e3, e4⟩ => by
        rw [hb] at e1
        have e0 : bagKV c a r m n ++ roomKV ro = bagKV c' x' y' z' u' ++ roomKV ro' := by
          simp only [Option.some.injEq, HO.dK.injEq] at e1
          exact e1
        have ec : c = c' := by
          simp only [bagKV, List.cons_append, List.cons.injEq, Prod.mk.injEq, V.ref.injEq, true_and] at e0
          exact e0.1
        have er : roomKV ro = roomKV ro' := by
          simp only [bagKV, List.cons_append, List.cons.injEq, List.nil_append] at e0
          exact e0.2.2.2.2.2
        have et : t = t' := by
          rw [← hro, ← e2]
          cases ro <;> cases ro' <;> first | rfl | cases er
        subst ec et
        exact ⟨ns, x, y, z, u, ro, upd_same, hro, hu _, g3⟩⟩
    have mm : ∀ x : Int, 0 ≤ x % many ∧ x % many < many := fun x => ⟨Int.emod_nonneg _ (by omega), Int.emod_lt_of_pos _ h0⟩
    refine ite_i (fun hr => ⟨⟨h0, h1⟩, h0, fin _ _ _ _ _ (mm _).1 (mm _).2 ha⟩) (fun hr => ?_)
    refine ite_i (fun hl => ?_) (fun hl => ?_)
    · obtain ⟨x, ex⟩ := atI_ok ha hl
      refine ⟨.int x, ex, ?_⟩
      simp only [V.int.injEq, exists_eq_left', exists_eq_left]
      refine ⟨⟨by decide, by decide, by decide⟩, ite_i (fun hx => ⟨⟨h0, h1⟩, h0, fin _ _ _ _ _ (mm _).1 (mm _).2 (by omega)⟩) (fun hx => ?_)⟩
      exact ⟨.inr ⟨by decide, by decide⟩, .inr ⟨by decide, by decide⟩, .inr ⟨by decide, by decide⟩, by decide, .inr ⟨by decide, by decide⟩, by decide, by decide, ⟨by decide, by decide⟩, h0, fin _ _ _ _ _ (mm _).1 (mm _).2 (by omega)⟩
    · exact ⟨.inr ⟨by decide, by decide⟩, .inr ⟨by decide, by decide⟩, .inr ⟨by decide, by decide⟩, by decide, .inr ⟨by decide, by decide⟩, by decide, by decide, ⟨by decide, by decide⟩, h0, fin _ _ _ _ _ (mm _).1 (mm _).2 ha⟩
end
section
variable {P : Program} {w : World} {K : PySem.W.Frag} {mg : Str → Option Value} {base : Heap}
theorem ok__law_choice (S : Src K mg "_law_choice" s__law_choice) (T : Tx P K mg) (TD : Td w K) (C__law_pick : Cal P w K mg base CX0 1 "_law_pick" ["_law_bag_here", "_law_many"] spPick)  : Cal P w K mg base CX0 2 "_law_choice" ["_law_bag_here", "_law_things"] spChoiceL := by
  refine S.cal sc__law_choice bn__law_choice (fun vs H Q E h => ?_) (fun f cdv A outer s H vs Q E hr h => ?_)
  · first | (obtain ⟨rfl, _⟩ := h; rfl) | (obtain ⟨_, rfl, _⟩ := h; rfl) | (obtain ⟨_, _, rfl, _⟩ := h; rfl) | (obtain ⟨_, _, _, rfl, _⟩ := h; rfl) | (obtain ⟨_, _, _, _, rfl, _⟩ := h; rfl) | (obtain ⟨_, _, _, _, _, rfl, _⟩ := h; rfl) | (obtain ⟨_, _, _, _, _, _, rfl, _⟩ := h; rfl) | (obtain ⟨_, _, _, _, _, _, _, rfl, _⟩ := h; rfl) | (obtain ⟨_, _, _, _, _, _, _, _, rfl, _⟩ := h; rfl) | (obtain ⟨_, _, _, _, _, _, _, _, _, rfl, _⟩ := h; rfl) | (obtain ⟨_, _, _, _, _, _, _, _, _, _, rfl, _⟩ := h; rfl) | (obtain ⟨_, _, _, _, _, _, _, _, _, _, _, rfl, _⟩ := h; rfl) | (obtain ⟨_, _, _, _, _, _, _, _, _, _, _, _, rfl, _⟩ := h; rfl)
  · skip
    refine ⟨_, (pss_one (ps_ret (pe_ix Fx.ix_L (pv 1) (Fx.pe_cal C__law_pick (hr.mono (by decide)) pass0 (Fx.pa_c (pv 0) (Fx.pa_c (Fx.pe_cB Fx.len_L T.b_len (by decide +kernel) (Fx.pa_c (pv 1) pa_nil)) pa_nil))) (fun _ _ => rfl)))), ?_⟩
    obtain ⟨b, p, xs, rfl, hB, hp, h0, h1, q⟩ := h
    walk_at "rd"
    simp only [hp, Option.some.injEq, HO.lst.injEq, exists_eq_left']
    refine ⟨b, _, rfl, hB, by omega, by omega, fun n H' n0 n1 kp => ?_⟩
    obtain ⟨v, hv, hm⟩ := atI_mem n0 n1
    exact ⟨n, rfl, _, kp.lst hB hp, v, hv, q v H' hm kp⟩
end
section
variable {P : Program} {w : World} {K : PySem.W.Frag} {mg : Str → Option Value} {base : Heap}
theorem ok__law_one_in (S : Src K mg "_law_one_in" s__law_one_in) (T : Tx P K mg) (TD : Td w K) (C__law_pick : Cal P w K mg base CX0 1 "_law_pick" ["_law_bag_here", "_law_many"] spPick)  : Cal P w K mg base CX0 2 "_law_one_in" ["_law_bag_here", "_law_many"] spOneIn := by
  refine S.cal sc__law_one_in bn__law_one_in (fun vs H Q E h => ?_) (fun f cdv A outer s H vs Q E hr h => ?_)
  · first | (obtain ⟨rfl, _⟩ := h; rfl) | (obtain ⟨_, rfl, _⟩ := h; rfl) | (obtain ⟨_, _, rfl, _⟩ := h; rfl) | (obtain ⟨_, _, _, rfl, _⟩ := h; rfl) | (obtain ⟨_, _, _, _, rfl, _⟩ := h; rfl) | (obtain ⟨_, _, _, _, _, rfl, _⟩ := h; rfl) | (obtain ⟨_, _, _, _, _, _, rfl, _⟩ := h; rfl) | (obtain ⟨_, _, _, _, _, _, _, rfl, _⟩ := h; rfl) | (obtain ⟨_, _, _, _, _, _, _, _, rfl, _⟩ := h; rfl) | (obtain ⟨_, _, _, _, _, _, _, _, _, rfl, _⟩ := h; rfl) | (obtain ⟨_, _, _, _, _, _, _, _, _, _, rfl, _⟩ := h; rfl) | (obtain ⟨_, _, _, _, _, _, _, _, _, _, _, rfl, _⟩ := h; rfl) | (obtain ⟨_, _, _, _, _, _, _, _, _, _, _, _, rfl, _⟩ := h; rfl)
  · skip
    refine ⟨_, (pss_one (ps_ret (pe_cmpR op_eq (Fx.pe_cal C__law_pick (hr.mono (by decide)) pass0 (Fx.pa_c (pv 0) (Fx.pa_c (pv 1) pa_nil))) pe_int (nomark _)))), ?_⟩
    obtain ⟨b, m, rfl, hB, h0, h1, q⟩ := h
    walk_at "rd"
    refine ⟨b, m, rfl, hB, h0, h1, fun n H' n0 n1 kp => ?_⟩
    walk_at "rd"
    exact q _ H' kp
end
section
variable {P : Program} {w : World} {K : PySem.W.Frag} {mg : Str → Option Value} {base : Heap}
theorem ok__law_shuffled (S : Src K mg "_law_shuffled" s__law_shuffled) (T : Tx P K mg) (TD : Td w K) (C__law_pick : Cal P w K mg base CX0 1 "_law_pick" ["_law_bag_here", "_law_many"] spPick)  : Cal P w K mg base CX0 2 "_law_shuffled" ["_law_bag_here", "_law_things"] spShuf := by
  refine S.cal sc__law_shuffled bn__law_shuffled (fun vs H Q E h => ?_) (fun f cdv A outer s H vs Q E hr h => ?_)
  · first | (obtain ⟨rfl, _⟩ := h; rfl) | (obtain ⟨_, rfl, _⟩ := h; rfl) | (obtain ⟨_, _, rfl, _⟩ := h; rfl) | (obtain ⟨_, _, _, rfl, _⟩ := h; rfl) | (obtain ⟨_, _, _, _, rfl, _⟩ := h; rfl) | (obtain ⟨_, _, _, _, _, rfl, _⟩ := h; rfl) | (obtain ⟨_, _, _, _, _, _, rfl, _⟩ := h; rfl) | (obtain ⟨_, _, _, _, _, _, _, rfl, _⟩ := h; rfl) | (obtain ⟨_, _, _, _, _, _, _, _, rfl, _⟩ := h; rfl) | (obtain ⟨_, _, _, _, _, _, _, _, _, rfl, _⟩ := h; rfl) | (obtain ⟨_, _, _, _, _, _, _, _, _, _, rfl, _⟩ := h; rfl) | (obtain ⟨_, _, _, _, _, _, _, _, _, _, _, rfl, _⟩ := h; rfl) | (obtain ⟨_, _, _, _, _, _, _, _, _, _, _, _, rfl, _⟩ := h; rfl)
  · skip
    refine ⟨_, (pss_cons (ps_set (i := 2) sc__law_shuffled.nd rfl (Or.inl rfl) (Fx.pe_cTy Fx.list_L T.b_list (by decide +kernel) (Fx.pa_c (pv 1) pa_nil)))
        (pss_cons (ps_set (i := 3) sc__law_shuffled.nd rfl (Or.inl rfl) (pe_lst pa_nil))
        (pss_cons (ps_for PassesOwn.never rfl (pi_range1 rfl T.b_range (Fx.pa_c (Fx.pe_cB Fx.len_L T.b_len (by decide +kernel) (Fx.pa_c (pv 1) pa_nil)) pa_nil)) (pg_name (i := 4) sc__law_shuffled.nd rfl (Or.inl rfl)) (pss_one (ps_expr (pe_bm PySem.F.plainAttrs_list PySem.F.slot_list_append PySem.F.type_list_append mt_append (pv 3) (Fx.pa_c (pe_bm PySem.F.plainAttrs_list PySem.F.slot_list_pop PySem.F.type_list_pop mt_popAt (pv 2) (Fx.pa_c (Fx.pe_cal C__law_pick (hr.mono (by decide)) pass0 (Fx.pa_c (pv 0) (Fx.pa_c (Fx.pe_cB Fx.len_L T.b_len (by decide +kernel) (Fx.pa_c (pv 2) pa_nil)) pa_nil))) pa_nil)) pa_nil)))))
        (pss_one (ps_ret (pv 3)))))), ?_⟩
    obtain ⟨b, p, xs, rfl, hB, hp, hl, q⟩ := h
    refine seqI fun K1 k1 => ?_
    walk_at "rd"
    refine ⟨_, hp, fun qr nr => k1 _ _ ?_⟩
    clear k1
    have s1 := same_new (o := .lst xs) nr
    have hr1 : (upd H qr (.lst xs)) qr = some (.lst xs) := upd_same
    generalize upd H qr (.lst xs) = H1 at s1 hr1
    refine seqI fun K1 k1 => ?_
    walk_at "rd"
    refine ⟨by decide, fun qw nw => k1 _ _ ?_⟩
    clear k1
    have s2 := s1.trans (same_new (o := .lst []) nw)
    have hr2 := same_new (o := .lst []) nw _ _ hr1
    have hw2 : (upd H1 qw (.lst [])) qw = some (.lst []) := upd_same
    have nw0 := s1.free nw
    have ne : qr ≠ qw := fun e => by rw [e, nw] at hr1; cases hr1
    generalize upd H1 qw (.lst []) = H2 at s2 hr2 hw2
    refine seqI fun K0 k0 => ?_
    refine ⟨_, rfl, p, _, rfl, s2 _ _ hp, _, rfl, by omega, by omega, ?_⟩
    rw [Int.toNat_natCast]
    refine for_range (lo := 0) (n := xs.length) (fun i σ H' => ∃ (v : Option V) (r w : List V), σ = [some (.ref b), some (.ref p), some (.ref qr), some (.ref qw), v] ∧ H' qr = some (.lst r) ∧ H' qw = some (.lst w) ∧ (w ++ r).Perm xs ∧ w.length = i ∧ Kp b H H') ⟨none, xs, [], rfl, hr2, hw2, .refl _, rfl, Kp.same hB s2⟩ ?_ ?_
    · rintro i σ H' hi ⟨v, r, w, rfl, hr, hw, pm, lw, kp⟩
      have B1 := kp.bag
      have el := pm.length_eq
      rw [List.length_append, lw] at el
      walk_at "rd"
      refine ⟨tyL hw, tyL hr, _, hr, b, _, rfl, B1, by omega, by omega, fun m H3 m0 m1 kp3 => ?_⟩
      obtain ⟨m, rfl⟩ := ni_nat m0
      have hm : m < r.length := by omega
      have hr3 := kp3.lst B1 hr
      have hw3 := kp3.lst B1 hw
      have ew : (upd H3 qr (.lst (r.eraseIdx m))) qw = some (.lst w) := by
        rw [upd_ne (Ne.symm ne)]
        exact hw3
      refine ⟨_, _, rfl, hr3, by omega, by omega, m, seqIx hm, _, List.getElem?_eq_getElem hm, _, ew, Nat.lt_of_le_of_lt (by omega : _ ≤ 1000) (by decide), r.eraseIdx m, ?_, ?_, ?_, ?_⟩
      · rw [upd_ne ne, upd_same]
      · rw [List.append_assoc]
        refine List.Perm.trans (List.Perm.append_left w ?_) pm
        exact eidx_perm hm
      · rw [List.length_append, lw]
        rfl
      · exact Kp.put hB (Kp.put hB (kp.trans kp3) nr) nw0
    rintro σ H' ⟨v, r, w, rfl, hr, hw, pm, lw, kp⟩
    refine k0 _ _ ?_
    walk_at "rd"
    have el := pm.length_eq
    rw [List.length_append, lw] at el
    have er : r = [] := List.length_eq_zero_iff.mp (by omega)
    rw [er, List.append_nil] at pm
    exact q qw w H' pm kp nw0 hw
end
section
variable {P : Program} {w : World} {K : PySem.W.Frag} {mg : Str → Option Value} {base : Heap}
theorem ok__law_letters (S : Src K mg "_law_letters" s__law_letters) (T : Tx P K mg) (TD : Td w K) (C__law_pick : Cal P w K mg base CX0 1 "_law_pick" ["_law_bag_here", "_law_many"] spPick)  : Cal P w K mg base CX0 2 "_law_letters" ["_law_bag_here", "_law_many"] spLetters := by
  refine S.cal sc__law_letters bn__law_letters (fun vs H Q E h => ?_) (fun f cdv A outer s H vs Q E hr h => ?_)
  · first | (obtain ⟨rfl, _⟩ := h; rfl) | (obtain ⟨_, rfl, _⟩ := h; rfl) | (obtain ⟨_, _, rfl, _⟩ := h; rfl) | (obtain ⟨_, _, _, rfl, _⟩ := h; rfl) | (obtain ⟨_, _, _, _, rfl, _⟩ := h; rfl) | (obtain ⟨_, _, _, _, _, rfl, _⟩ := h; rfl) | (obtain ⟨_, _, _, _, _, _, rfl, _⟩ := h; rfl) | (obtain ⟨_, _, _, _, _, _, _, rfl, _⟩ := h; rfl) | (obtain ⟨_, _, _, _, _, _, _, _, rfl, _⟩ := h; rfl) | (obtain ⟨_, _, _, _, _, _, _, _, _, rfl, _⟩ := h; rfl) | (obtain ⟨_, _, _, _, _, _, _, _, _, _, rfl, _⟩ := h; rfl) | (obtain ⟨_, _, _, _, _, _, _, _, _, _, _, rfl, _⟩ := h; rfl) | (obtain ⟨_, _, _, _, _, _, _, _, _, _, _, _, rfl, _⟩ := h; rfl)
  · skip
    refine ⟨_, (pss_one (ps_ret (pe_m1 PySem.F.slot_str_join PySem.F.type_str_join Fx.mt_jn pe_str (pe_lc (own := [("_law_k", 2)]) rfl sc__law_letters.nd (pi_range1 rfl T.b_range (Fx.pa_c (pv 1) pa_nil)) (blkOk_by (N := N__law_letters) (sc := defScope s__law_letters) (by decide +kernel)) (fun _ _ _ _ _ => (pg_name (i := 2) sc__law_letters.nd rfl (Or.inl rfl))) (fun _ _ _ _ _ => pts_nil) (fun _ _ _ _ _ => (pe_ix Fx.ix_S pe_str (Fx.pe_cal C__law_pick (hr.mono (by decide)) pass0 (Fx.pa_c (pv 0) (Fx.pa_c pe_int pa_nil))) (fun _ _ => rfl))))))), ?_⟩
    obtain ⟨b, n, rfl, hB, hn, q⟩ := h
    walk_at "rd"
    refine ⟨_, rfl, _, rfl, by omega, by omega, fun D nD => ?_⟩
    rw [Int.toNat_natCast]
    refine lc_range (lo := 0) (n := n) (fun i H6 => ∃ cs : List Nat, cs.length = i ∧ (∀ c ∈ cs, c ∈ lets26.cps.toList) ∧ H6 D = some (.lst ((cs.map S1).map V.str)) ∧ Kp b H H6) ⟨[], rfl, fun c h => by (cases h), upd_same, Kp.put hB (Kp.refl hB) nD⟩ ?_ ?_
    · rintro i H6 hi ⟨cs, hcs, hall, hD, kp6⟩
      refine ⟨rfl, ?_⟩
      walk_at "rd"
      refine ⟨b, _, rfl, kp6.bag, by decide, by decide, fun r H7 r0 r1 kp7 => ?_⟩
      obtain ⟨c, hc, hm⟩ := atI_mem (xs := lets26.cps.toList) r0 (by rw [Array.length_toList]; exact r1)
      walk_at "rd"
      refine ⟨by decide, c, hc, _, kp7.lst kp6.bag hD, ?_, cs ++ [c], ?_, ?_, ?_, Kp.put hB (kp6.trans kp7) nD⟩
      · rw [List.length_map, List.length_map]
        exact Nat.lt_of_lt_of_le (by omega : _ < 100) (by decide)
      · rw [List.length_append, hcs]
        rfl
      · intro x hx
        rcases List.mem_append.mp hx with hx | hx
        · exact hall x hx
        · rw [List.mem_singleton.mp hx]
          exact hm
      · rw [List.map_append, List.map_append]
        rfl
    rintro H6 ⟨cs, hcs, hall, hD, kp6⟩
    refine ⟨D, rfl, cs.map S1, hD, join_fits (by omega), q _ _ ?_ ?_ kp6⟩
    · rw [join_len, hcs]
    · exact fun c hc => hall c (by rw [join_S1] at hc; exact hc)
end
section
variable {P : Program} {w : World} {K : PySem.W.Frag} {mg : Str → Option Value} {base : Heap}
theorem ok__law_reserved (S : Src K mg "_law_reserved" s__law_reserved) (T : Tx P K mg) (TD : Td w K)   : Cal P w K mg base CX0 1 "_law_reserved" [] spResL := by
  refine S.cal sc__law_reserved bn__law_reserved (fun vs H Q E h => ?_) (fun f cdv A outer s H vs Q E hr h => ?_)
  · first | (obtain ⟨rfl, _⟩ := h; rfl) | (obtain ⟨_, rfl, _⟩ := h; rfl) | (obtain ⟨_, _, rfl, _⟩ := h; rfl) | (obtain ⟨_, _, _, rfl, _⟩ := h; rfl) | (obtain ⟨_, _, _, _, rfl, _⟩ := h; rfl) | (obtain ⟨_, _, _, _, _, rfl, _⟩ := h; rfl) | (obtain ⟨_, _, _, _, _, _, rfl, _⟩ := h; rfl) | (obtain ⟨_, _, _, _, _, _, _, rfl, _⟩ := h; rfl) | (obtain ⟨_, _, _, _, _, _, _, _, rfl, _⟩ := h; rfl) | (obtain ⟨_, _, _, _, _, _, _, _, _, rfl, _⟩ := h; rfl) | (obtain ⟨_, _, _, _, _, _, _, _, _, _, rfl, _⟩ := h; rfl) | (obtain ⟨_, _, _, _, _, _, _, _, _, _, _, rfl, _⟩ := h; rfl) | (obtain ⟨_, _, _, _, _, _, _, _, _, _, _, _, rfl, _⟩ := h; rfl)
  · skip
    refine ⟨_, (pss_cons (ps_set (i := 0) sc__law_reserved.nd rfl (Or.inl rfl) pe_str)
        (pss_cons (ps_set (i := 0) sc__law_reserved.nd rfl (Or.inl rfl) (pe_op op_add_str (pv 0) pe_str))
        (pss_cons (ps_set (i := 0) sc__law_reserved.nd rfl (Or.inl rfl) (pe_op op_add_str (pv 0) pe_str))
        (pss_cons (ps_set (i := 0) sc__law_reserved.nd rfl (Or.inl rfl) (pe_op op_add_str (pv 0) pe_str))
        (pss_cons (ps_set (i := 0) sc__law_reserved.nd rfl (Or.inl rfl) (pe_op op_add_str (pv 0) pe_str))
        (pss_one (ps_ret (pe_m1 PySem.F.slot_str_split PySem.F.type_str_split mt_split (pv 0) pe_str)))))))), ?_⟩
    obtain ⟨rfl, q⟩ := h
    walk_at "rd"
    refine ⟨by decide +kernel, by decide +kernel, by decide +kernel, by decide +kernel, by decide +kernel, by decide +kernel, fun p np => q p _ (same_new np) np ?_⟩
    exact upd_same.trans (congrArg (fun l => some (HO.lst (List.map V.str l))) (by decide +kernel))
end
section
variable {P : Program} {w : World} {K : PySem.W.Frag} {mg : Str → Option Value} {base : Heap}
theorem ok__law_kinds (S : Src K mg "_law_kinds" s__law_kinds) (T : Tx P K mg) (TD : Td w K)   : Cal P w K mg base CX0 1 "_law_kinds" ["_law_due"] spKindsL := by
  refine S.cal sc__law_kinds bn__law_kinds (fun vs H Q E h => ?_) (fun f cdv A outer s H vs Q E hr h => ?_)
  · first | (obtain ⟨rfl, _⟩ := h; rfl) | (obtain ⟨_, rfl, _⟩ := h; rfl) | (obtain ⟨_, _, rfl, _⟩ := h; rfl) | (obtain ⟨_, _, _, rfl, _⟩ := h; rfl) | (obtain ⟨_, _, _, _, rfl, _⟩ := h; rfl) | (obtain ⟨_, _, _, _, _, rfl, _⟩ := h; rfl) | (obtain ⟨_, _, _, _, _, _, rfl, _⟩ := h; rfl) | (obtain ⟨_, _, _, _, _, _, _, rfl, _⟩ := h; rfl) | (obtain ⟨_, _, _, _, _, _, _, _, rfl, _⟩ := h; rfl) | (obtain ⟨_, _, _, _, _, _, _, _, _, rfl, _⟩ := h; rfl) | (obtain ⟨_, _, _, _, _, _, _, _, _, _, rfl, _⟩ := h; rfl) | (obtain ⟨_, _, _, _, _, _, _, _, _, _, _, rfl, _⟩ := h; rfl) | (obtain ⟨_, _, _, _, _, _, _, _, _, _, _, _, rfl, _⟩ := h; rfl)
  · skip
    refine ⟨_, (pss_cons (ps_if (pt_cmpR op_eq (pv 0) pe_str (nomark _)) (pss_one (ps_ret (pe_disp (pps_cons pe_str (pe_lst pa_nil) (pps_cons pe_str (pe_lst (Fx.pa_c pe_str pa_nil)) (pps_cons pe_str (pe_lst (Fx.pa_c pe_str pa_nil)) (pps_cons pe_str (pe_lst (Fx.pa_c pe_str pa_nil)) (pps_cons pe_str (pe_lst (Fx.pa_c pe_str pa_nil)) (pps_cons pe_str (pe_lst (Fx.pa_c pe_str pa_nil)) (pps_cons pe_str (pe_lst (Fx.pa_c pe_str (Fx.pa_c pe_str pa_nil))) (pps_cons pe_str (pe_lst (Fx.pa_c pe_str (Fx.pa_c pe_str pa_nil))) pps_nil)))))))) (by rfl) (by rfl) (fun z => by cases z) (by decide)))) pss_nil)
        (pss_one (ps_ret (Fx.pe_dispN (pls_cons pe_str (pe_lst (Fx.pa_c pe_str pa_nil)) (pls_cons pe_str (pe_lst (Fx.pa_c pe_str pa_nil)) (pls_cons pe_str (pe_lst (Fx.pa_c pe_str pa_nil)) (pls_cons pe_str (pe_lst (Fx.pa_c pe_str (Fx.pa_c pe_str pa_nil))) (pls_cons pe_str (pe_lst (Fx.pa_c pe_str (Fx.pa_c pe_str pa_nil))) (pls_cons pe_str (pe_lst (Fx.pa_c pe_str (Fx.pa_c pe_str pa_nil))) (pls_cons pe_str (pe_lst (Fx.pa_c pe_str (Fx.pa_c pe_str pa_nil))) (pls_cons pe_str (pe_lst (Fx.pa_c pe_str pa_nil)) (pls_cons pe_str (pe_lst (Fx.pa_c pe_str (Fx.pa_c pe_str pa_nil))) (pls_cons pe_str (pe_lst (Fx.pa_c pe_str pa_nil)) (pls_cons pe_str (pe_lst (Fx.pa_c pe_str (Fx.pa_c pe_str pa_nil))) (pls_cons pe_str (pe_lst (Fx.pa_c pe_str pa_nil)) (pls_cons pe_str (pe_lst pa_nil) (pls_cons pe_str (pe_lst (Fx.pa_c pe_str (Fx.pa_c pe_str pa_nil))) (pls_cons pe_str (pe_lst (Fx.pa_c pe_str (Fx.pa_c pe_str pa_nil))) (pls_cons pe_str (pe_lst pa_nil) (pls_cons pe_str (pe_lst (Fx.pa_c pe_str (Fx.pa_c pe_str pa_nil))) pls_nil))))))))))))))))) (pps_cons pe_str (pe_lst (Fx.pa_c pe_str (Fx.pa_c pe_str pa_nil))) (pps_cons pe_str (pe_lst (Fx.pa_c pe_str (Fx.pa_c pe_str pa_nil))) (pps_cons pe_str (pe_lst (Fx.pa_c pe_str (Fx.pa_c pe_str pa_nil))) (pps_cons pe_str (pe_lst (Fx.pa_c pe_str (Fx.pa_c pe_str pa_nil))) (pps_cons pe_str (pe_lst (Fx.pa_c pe_str (Fx.pa_c pe_str pa_nil))) (pps_cons pe_str (pe_lst (Fx.pa_c pe_str (Fx.pa_c pe_str pa_nil))) (pps_cons pe_str (pe_lst (Fx.pa_c pe_str (Fx.pa_c pe_str pa_nil))) (pps_cons pe_str (pe_lst (Fx.pa_c pe_str (Fx.pa_c pe_str pa_nil))) pps_nil)))))))) (by rfl) (by rfl) (by decide) (by decide))))), ?_⟩
    obtain ⟨due, rfl, q⟩ := h
    cases due
    · refine seqI fun K1 k1 => ?_
      walk_at "rd"
      exact disp_run kindX _ H _ (by decide +kernel) (by decide +kernel) (by decide +kernel) q
    · refine seqI fun K1 k1 => ?_
      walk_at "rd"
      refine Fx.ifF (by decide) ?_
      refine k1 _ _ ?_
      clear k1
      walk_at "rd"
      exact dispL_run kindN1 kindN2 _ H _ (by decide +kernel) (by decide +kernel) (by decide) (by decide) (by decide) (by decide +kernel) q
end
section
variable {P : Program} {w : World} {K : PySem.W.Frag} {mg : Str → Option Value} {base : Heap}
theorem ok__law_known (S : Src K mg "_law_known" s__law_known) (T : Tx P K mg) (TD : Td w K)   : Cal P w K mg base CX0 1 "_law_known" ["_law_kind"] spKnownL := by
  refine S.cal sc__law_known bn__law_known (fun vs H Q E h => ?_) (fun f cdv A outer s H vs Q E hr h => ?_)
  · first | (obtain ⟨rfl, _⟩ := h; rfl) | (obtain ⟨_, rfl, _⟩ := h; rfl) | (obtain ⟨_, _, rfl, _⟩ := h; rfl) | (obtain ⟨_, _, _, rfl, _⟩ := h; rfl) | (obtain ⟨_, _, _, _, rfl, _⟩ := h; rfl) | (obtain ⟨_, _, _, _, _, rfl, _⟩ := h; rfl) | (obtain ⟨_, _, _, _, _, _, rfl, _⟩ := h; rfl) | (obtain ⟨_, _, _, _, _, _, _, rfl, _⟩ := h; rfl) | (obtain ⟨_, _, _, _, _, _, _, _, rfl, _⟩ := h; rfl) | (obtain ⟨_, _, _, _, _, _, _, _, _, rfl, _⟩ := h; rfl) | (obtain ⟨_, _, _, _, _, _, _, _, _, _, rfl, _⟩ := h; rfl) | (obtain ⟨_, _, _, _, _, _, _, _, _, _, _, rfl, _⟩ := h; rfl) | (obtain ⟨_, _, _, _, _, _, _, _, _, _, _, _, rfl, _⟩ := h; rfl)
  · skip
    refine ⟨_, (pss_cons (ps_set (i := 1) sc__law_known.nd rfl (Or.inl rfl) (pe_disp (pps_cons pe_str (pe_lst (Fx.pa_c pe_str (Fx.pa_c pe_str (Fx.pa_c pe_str (Fx.pa_c pe_str pa_nil))))) (pps_cons pe_str (pe_lst (Fx.pa_c pe_str (Fx.pa_c pe_str (Fx.pa_c pe_str pa_nil)))) (pps_cons pe_str (pe_lst (Fx.pa_c pe_str (Fx.pa_c pe_str (Fx.pa_c pe_str (Fx.pa_c pe_str pa_nil))))) (pps_cons pe_str (pe_lst (Fx.pa_c pe_str (Fx.pa_c pe_str (Fx.pa_c pe_str (Fx.pa_c pe_str (Fx.pa_c pe_str (Fx.pa_c pe_str pa_nil))))))) (pps_cons pe_str (pe_lst (Fx.pa_c pe_str (Fx.pa_c pe_str (Fx.pa_c pe_str pa_nil)))) (pps_cons pe_str (pe_lst (Fx.pa_c pe_str (Fx.pa_c pe_str (Fx.pa_c pe_str pa_nil)))) (pps_cons pe_str (pe_lst (Fx.pa_c pe_str pa_nil)) (pps_cons pe_str (pe_lst (Fx.pa_c pe_str (Fx.pa_c pe_str (Fx.pa_c pe_str (Fx.pa_c pe_str (Fx.pa_c pe_str (Fx.pa_c pe_str (Fx.pa_c pe_str (Fx.pa_c pe_str pa_nil))))))))) pps_nil)))))))) (by rfl) (by rfl) (fun z => by cases z) (by decide)))
        (pss_one (ps_ret (pe_dget2 (hu_of hr) (pv 1) (pv 0) (pe_lst pa_nil) ⟨rfl, rfl, rfl, rfl⟩)))), ?_⟩
    obtain ⟨k, rfl, q⟩ := h
    refine seqI fun K1 k1 => ?_
    walk_at "rd"
    refine disp_run knRows _ H _ (by decide +kernel) (by decide +kernel) (by decide +kernel) fun p kvs H1 s1 np ra ek hp => ?_
    refine k1 _ _ ?_
    clear k1
    walk_at "rd"
    refine ⟨.inl ⟨kvs, .inl hp⟩, by decide, fun r nr => ?_⟩
    have sr := same_new (o := .lst []) nr
    refine ⟨_, DGet.k (k := Sum.inr k) (sr _ _ hp), ?_⟩
    have eK : knOf k = ((knRows.find? fun r => decide (r.1 = k)).map (·.2)).getD [] := rfl
    rcases ra.val k ek with ⟨n1, n2⟩ | ⟨row, a, n1, n2, n3⟩
    · rw [n1] at eK
      rw [n2]
      exact q r _ (s1.trans sr) (by rw [eK]; exact upd_same)
    · rw [n1] at eK
      rw [n2]
      exact q a _ (s1.trans sr) (by rw [eK]; exact sr _ _ n3)
end
section
variable {P : Program} {w : World} {K : PySem.W.Frag} {mg : Str → Option Value} {base : Heap}
theorem ok__law_ranges (S : Src K mg "_law_ranges" s__law_ranges) (T : Tx P K mg) (TD : Td w K)   : Cal P w K mg base CX0 1 "_law_ranges" [] (spRowsD rngRows) := by
  refine S.cal sc__law_ranges bn__law_ranges (fun vs H Q E h => ?_) (fun f cdv A outer s H vs Q E hr h => ?_)
  · first | (obtain ⟨rfl, _⟩ := h; rfl) | (obtain ⟨_, rfl, _⟩ := h; rfl) | (obtain ⟨_, _, rfl, _⟩ := h; rfl) | (obtain ⟨_, _, _, rfl, _⟩ := h; rfl) | (obtain ⟨_, _, _, _, rfl, _⟩ := h; rfl) | (obtain ⟨_, _, _, _, _, rfl, _⟩ := h; rfl) | (obtain ⟨_, _, _, _, _, _, rfl, _⟩ := h; rfl) | (obtain ⟨_, _, _, _, _, _, _, rfl, _⟩ := h; rfl) | (obtain ⟨_, _, _, _, _, _, _, _, rfl, _⟩ := h; rfl) | (obtain ⟨_, _, _, _, _, _, _, _, _, rfl, _⟩ := h; rfl) | (obtain ⟨_, _, _, _, _, _, _, _, _, _, rfl, _⟩ := h; rfl) | (obtain ⟨_, _, _, _, _, _, _, _, _, _, _, rfl, _⟩ := h; rfl) | (obtain ⟨_, _, _, _, _, _, _, _, _, _, _, _, rfl, _⟩ := h; rfl)
  · skip
    refine ⟨_, (pss_one (ps_ret (pe_disp (pps_cons pe_str (pe_lst (Fx.pa_c pe_int (Fx.pa_c pe_int pa_nil))) (pps_cons pe_str (pe_lst (Fx.pa_c pe_int (Fx.pa_c pe_int pa_nil))) (pps_cons pe_str (pe_lst (Fx.pa_c pe_int (Fx.pa_c pe_int pa_nil))) (pps_cons pe_str (pe_lst (Fx.pa_c pe_int (Fx.pa_c pe_int pa_nil))) (pps_cons pe_str (pe_lst (Fx.pa_c pe_int (Fx.pa_c pe_int pa_nil))) (pps_cons pe_str (pe_lst (Fx.pa_c pe_int (Fx.pa_c pe_int pa_nil))) pps_nil)))))) (by rfl) (by rfl) (fun z => by cases z) (by decide)))), ?_⟩
    obtain ⟨rfl, q⟩ := h
    walk_at "rd"
    exact disp_run rngRows _ H Q (by decide +kernel) (by decide +kernel) (by decide +kernel) q
end
section
variable {P : Program} {w : World} {K : PySem.W.Frag} {mg : Str → Option Value} {base : Heap}
theorem ok__law_name (S : Src K mg "_law_name" s__law_name) (T : Tx P K mg) (TD : Td w K) (C__law_pick : Cal P w K mg base CX0 1 "_law_pick" ["_law_bag_here", "_law_many"] spPick) (C__law_letters : Cal P w K mg base CX0 2 "_law_letters" ["_law_bag_here", "_law_many"] spLetters) (C__law_reserved : Cal P w K mg base CX0 1 "_law_reserved" [] spResL)  : Cal P w K mg base CX0 3 "_law_name" ["_law_bag_here"] spNameL := by
  refine S.cal sc__law_name bn__law_name (fun vs H Q E h => ?_) (fun f cdv A outer s H vs Q E hr h => ?_)
  · first | (obtain ⟨rfl, _⟩ := h; rfl) | (obtain ⟨_, rfl, _⟩ := h; rfl) | (obtain ⟨_, _, rfl, _⟩ := h; rfl) | (obtain ⟨_, _, _, rfl, _⟩ := h; rfl) | (obtain ⟨_, _, _, _, rfl, _⟩ := h; rfl) | (obtain ⟨_, _, _, _, _, rfl, _⟩ := h; rfl) | (obtain ⟨_, _, _, _, _, _, rfl, _⟩ := h; rfl) | (obtain ⟨_, _, _, _, _, _, _, rfl, _⟩ := h; rfl) | (obtain ⟨_, _, _, _, _, _, _, _, rfl, _⟩ := h; rfl) | (obtain ⟨_, _, _, _, _, _, _, _, _, rfl, _⟩ := h; rfl) | (obtain ⟨_, _, _, _, _, _, _, _, _, _, rfl, _⟩ := h; rfl) | (obtain ⟨_, _, _, _, _, _, _, _, _, _, _, rfl, _⟩ := h; rfl) | (obtain ⟨_, _, _, _, _, _, _, _, _, _, _, _, rfl, _⟩ := h; rfl)
  · skip
    refine ⟨_, (pss_cons (ps_set (i := 1) sc__law_name.nd rfl (Or.inl rfl) (Fx.pe_cal C__law_letters (hr.mono (by decide)) pass0 (Fx.pa_c (pv 0) (Fx.pa_c (pe_op op_add pe_int (Fx.pe_cal C__law_pick (hr.mono (by decide)) pass0 (Fx.pa_c (pv 0) (Fx.pa_c pe_int pa_nil)))) pa_nil))))
        (pss_one (ps_ret (pe_ifExp (pt_cmpR Fx.in_S (pv 1) (Fx.pe_cal0 C__law_reserved (hr.mono (by decide)) pass0) rfl) (pe_op op_add_str (pv 1) pe_str) (pv 1))))), ?_⟩
    obtain ⟨b, rfl, hB, q⟩ := h
    refine seqI fun K1 k1 => ?_
    walk_at "rd"
    refine ⟨b, 12, rfl, hB, by omega, by omega, fun n H1 n0 n1 kp => ⟨n, rfl, ?_⟩⟩
    obtain ⟨n, rfl⟩ := ni_nat n0
    refine ⟨b, n + 1, by rw [show (1 + (n : Int)) = ((n + 1 : Nat) : Int) by omega], kp.bag, by omega, fun z H2 hz hall kp2 => ?_⟩
    refine k1 _ _ ?_
    clear k1
    walk_at "rd"
    refine ⟨rfl, fun r H3 s3 nr hr => ⟨r, rfl, resW, .inl hr, ?_⟩⟩
    have kp3 : Kp b H H3 := (kp.trans kp2).trans (Kp.same kp2.bag s3)
    refine ite_i (fun hm => ⟨?_, q _ H3 (nm_qq hm) kp3⟩) (fun hm => q _ H3 (nm_lets (by omega) (by omega) hm hall) kp3)
    rw [hz, show ("qq" : Str).length = 2 by decide +kernel]
    exact Nat.le_trans (show _ ≤ 1000 by omega) (by decide)
end
section
variable {P : Program} {w : World} {K : PySem.W.Frag} {mg : Str → Option Value} {base : Heap}
theorem ok__law_small (S : Src K mg "_law_small" s__law_small) (T : Tx P K mg) (TD : Td w K) (C__law_ranges : Cal P w K mg base CX0 1 "_law_ranges" [] (spRowsD rngRows)) (C__law_pick : Cal P w K mg base CX0 1 "_law_pick" ["_law_bag_here", "_law_many"] spPick) (C__law_choice : Cal P w K mg base CX0 2 "_law_choice" ["_law_bag_here", "_law_things"] spChoiceL) (C__law_known : Cal P w K mg base CX0 1 "_law_known" ["_law_kind"] spKnownL) (C__law_one_in : Cal P w K mg base CX0 2 "_law_one_in" ["_law_bag_here", "_law_many"] spOneIn) (C__law_name : Cal P w K mg base CX0 3 "_law_name" ["_law_bag_here"] spNameL)  : Cal P w K mg base CX0 4 "_law_small" ["_law_bag_here", "_law_kind"] spSmallL := by
  refine S.cal sc__law_small bn__law_small (fun vs H Q E h => ?_) (fun f cdv A outer s H vs Q E hr h => ?_)
  · first | (obtain ⟨rfl, _⟩ := h; rfl) | (obtain ⟨_, rfl, _⟩ := h; rfl) | (obtain ⟨_, _, rfl, _⟩ := h; rfl) | (obtain ⟨_, _, _, rfl, _⟩ := h; rfl) | (obtain ⟨_, _, _, _, rfl, _⟩ := h; rfl) | (obtain ⟨_, _, _, _, _, rfl, _⟩ := h; rfl) | (obtain ⟨_, _, _, _, _, _, rfl, _⟩ := h; rfl) | (obtain ⟨_, _, _, _, _, _, _, rfl, _⟩ := h; rfl) | (obtain ⟨_, _, _, _, _, _, _, _, rfl, _⟩ := h; rfl) | (obtain ⟨_, _, _, _, _, _, _, _, _, rfl, _⟩ := h; rfl) | (obtain ⟨_, _, _, _, _, _, _, _, _, _, rfl, _⟩ := h; rfl) | (obtain ⟨_, _, _, _, _, _, _, _, _, _, _, rfl, _⟩ := h; rfl) | (obtain ⟨_, _, _, _, _, _, _, _, _, _, _, _, rfl, _⟩ := h; rfl)
  · skip
    refine ⟨_, (pss_cons (ps_if (pt_cmp (pc_din (hu_of hr) (pv 1) (Fx.pe_cal0 C__law_ranges (hr.mono (by decide)) pass0))) (pss_cons (ps_asg (pe_dget (hu_of hr) (Fx.pe_cal0 C__law_ranges (hr.mono (by decide)) pass0) (pv 1) (fun _ _ => rfl)) (pg_lst rfl (pgs_cons (pg_name (i := 2) sc__law_small.nd rfl (Or.inl rfl)) (pgs_cons (pg_name (i := 3) sc__law_small.nd rfl (Or.inl rfl)) pgs_nil))))
        (pss_one (ps_ret (Fx.pe_cal C__law_choice (hr.mono (by decide)) pass0 (Fx.pa_c (pv 0) (Fx.pa_c (pe_lst (Fx.pa_c (pv 2) (Fx.pa_c (pv 3) (Fx.pa_c (pe_op op_add (pv 2) (Fx.pe_cal C__law_pick (hr.mono (by decide)) pass0 (Fx.pa_c (pv 0) (Fx.pa_c (pe_op op_add (pe_op op_sub (pv 3) (pv 2)) pe_int) pa_nil)))) pa_nil)))) pa_nil)))))) pss_nil)
        (pss_cons (ps_set (i := 4) sc__law_small.nd rfl (Or.inl rfl) (Fx.pe_cal C__law_known (hr.mono (by decide)) pass0 (Fx.pa_c (pv 1) pa_nil)))
        (pss_cons (ps_if (PW.pt (pw_or (pt_cmpR op_eq (pv 1) pe_str (nomark _)) (pw_or1 (PW.pt (pw_and (pt_cmpR (Fx.ne_LL hr.units) (pv 4) (pe_lst pa_nil) (nomark _)) (pw_and1 (pt_val (Fx.pe_cal C__law_one_in (hr.mono (by decide)) pass0 (Fx.pa_c (pv 0) (Fx.pa_c pe_int pa_nil)))))))))) (pss_one (ps_ret (Fx.pe_cal C__law_choice (hr.mono (by decide)) pass0 (Fx.pa_c (pv 0) (Fx.pa_c (pv 4) pa_nil))))) pss_nil)
        (pss_one (ps_ret (Fx.pe_cal C__law_name (hr.mono (by decide)) pass0 (Fx.pa_c (pv 0) pa_nil))))))), ?_⟩
    obtain ⟨b, kd, rfl, hk, hB, q⟩ := h
    obtain ⟨f1, f2, f3, f4, f5⟩ := small_facts hk
    refine seqI fun K1 k1 => ?_
    walk_at "rd"
    refine ⟨rfl, fun p kvs H1 s1 np ra ek hp => ⟨p, rfl, _, DGet.k (k := Sum.inr kd) hp, ?_⟩⟩
    have B1 := hB.same s1
    have kp1 := Kp.same hB s1
    rcases ra.val kd ek with ⟨n1, n2⟩ | ⟨row, a, n1, n2, n3⟩
    · rw [n2]
      refine Fx.ifF (by decide) ?_
      refine k1 _ _ ?_
      clear k1
      have kn : rngK kd = none := by
        cases er : rngK kd with
        | none => rfl
        | some lh =>
          obtain ⟨lo, hi⟩ := lh
          rw [(f5 lo hi er).2] at n1
          cases n1
      have tk : ∀ z, okS kd z = true → takeS kd z = some (.str z) := fun z hz => take_nm kn f2 hz
      refine seqI fun K1 k1 => ?_
      walk_at "rd"
      refine ⟨kd, rfl, fun r H2 s2 hr => ?_⟩
      refine k1 _ _ ?_
      clear k1
      have kp2 := kp1.then s2
      rw [f3] at hr
      refine seqI fun K3 k3 => ?_
      refine ifI fun A B ka kb => ?_
      walk_at "rd"
      have fl : (ms (known kd)).all isF = true := List.all_eq_true.mp (show smallK.all (fun k => (ms (known k)).all isF) = true by decide +kernel) kd hk
      have toB : ∀ H4, Kp b H H4 → B H4 := fun H4 kp4 => kb _ (k3 _ _ (by
        walk_at "rd"
        exact ⟨b, rfl, kp4.bag, fun z H5 hz kp5 => q z (.str z) H5 (tk z (by unfold okS; rw [hz, Bool.or_true])) (kp4.trans kp5)⟩))
      refine Fx.ifF f1 ⟨by decide, fun p3 np3 => ⟨_, same_new np3 _ _ hr, fl, rfl, ite_i (fun e0 => toB _ (kp2.then (same_new np3))) (fun e0 => ?_)⟩⟩
      have kp3 := kp2.then (same_new (o := .lst []) np3)
      replace hr := same_new (o := .lst []) np3 _ _ hr
      refine ⟨b, 2, rfl, kp3.bag, by decide, by decide, fun c H5 kp5 => ⟨c, rfl, ite_i (fun _ => ka _ ?_) (fun _ => toB _ (kp3.trans kp5))⟩⟩
      have kp6 := kp3.trans kp5
      replace hr := kp5.lst kp3.bag hr
      walk_at "rd"
      refine ⟨b, r, _, rfl, kp6.bag, hr, ?_, ?_, fun v H7 hv kp7 => ?_⟩
      · rcases Nat.eq_zero_or_pos (ms (known kd)).length with z | z
        · exact absurd (List.length_eq_zero_iff.mp z) e0
        · exact z
      · have := List.all_eq_true.mp (show smallK.all (fun k => decide ((ms (known k)).length ≤ 100000)) = true by decide +kernel) kd hk
        exact of_decide_eq_true this
      · obtain ⟨z, hz, rfl⟩ := List.mem_map.mp hv
        exact q z (.str z) H7 (tk z (by unfold okS; rw [decide_eq_true hz, Bool.true_or])) (kp6.trans kp7)
    · rw [n2]
      refine Fx.ifT rfl ⟨rfl, fun p2 kvs2 H2 s2 np2 ra2 ek2 hp2 => ⟨p2, rfl, ?_⟩⟩
      have kp2 := kp1.then s2
      clear n2 n3
      rcases ra2.val kd ek2 with ⟨n3, _⟩ | ⟨row2, a2, n3, n4, n5⟩
      · rw [n1] at n3
        cases n3
      rw [n1] at n3
      obtain rfl := Option.some.inj n3
      refine ⟨.ref a2, by rw [← n4]; exact DGet.k (k := Sum.inr kd) hp2, ?_⟩
      cases er : rngK kd with
      | none =>
        rw [f4 er] at n1
        cases n1
      | some lh =>
        obtain ⟨lo, hi⟩ := lh
        obtain ⟨g1, g2⟩ := f5 lo hi er
        rw [g2] at n1
        cases n1
        refine ⟨a2, _, rfl, .inl (.inl n5), rfl, ?_⟩
        walk_at "rd"
        have lh9 := rng_le er
        refine ⟨b, _, rfl, kp2.bag, by omega, by omega, fun x H3 x0 x1 kp3 => ⟨x, rfl, by decide, fun p5 np5 => ?_⟩⟩
        have kp5 := (kp2.trans kp3).then (same_new (o := .lst [V.int lo, V.int hi, V.int (lo + x)]) np5)
        refine ⟨b, p5, _, rfl, kp5.bag, upd_same, (show 0 < 3 by decide), (show 3 ≤ 100000 by decide), fun v H6 hv kp6 => ?_⟩
        obtain ⟨n, rfl, n1, n2⟩ : ∃ n : Nat, v = .int (n : Nat) ∧ lo ≤ n ∧ n ≤ hi := by
          simp only [List.mem_cons, List.not_mem_nil, or_false] at hv
          rcases hv with rfl | rfl | rfl
          · exact ⟨lo, rfl, Nat.le_refl _, g1⟩
          · exact ⟨hi, rfl, g1, Nat.le_refl _⟩
          · obtain ⟨m, rfl⟩ := ni_nat x0
            exact ⟨lo + m, by rw [Int.natCast_add], by omega, by omega⟩
        exact q _ _ H6 (take_int er n1 n2) (kp5.trans kp6)
end
section
variable {P : Program} {w : World} {K : PySem.W.Frag} {mg : Str → Option Value} {base : Heap}
theorem ok__law_form (S : Src K mg "_law_form" s__law_form) (T : Tx P K mg) (TD : Td w K) (C__law_pick : Cal P w K mg base CX0 1 "_law_pick" ["_law_bag_here", "_law_many"] spPick) (C__law_kinds : Cal P w K mg base CX0 1 "_law_kinds" ["_law_due"] spKindsL) (C__law_choice : Cal P w K mg base CX0 2 "_law_choice" ["_law_bag_here", "_law_things"] spChoiceL) (C__law_shuffled : Cal P w K mg base CX0 2 "_law_shuffled" ["_law_bag_here", "_law_things"] spShuf) (C__law_name : Cal P w K mg base CX0 3 "_law_name" ["_law_bag_here"] spNameL) (C__law_small : Cal P w K mg base CX0 4 "_law_small" ["_law_bag_here", "_law_kind"] spSmallL)  : Cal P w K mg base CX0 11 "_law_form" ["_law_bag_here", "_law_due", "_law_levels"] (spFormN 6) := by
  have go : ∀ n : Nat, Cal P w K mg base CX0 (5 + n) "_law_form" ["_law_bag_here", "_law_due", "_law_levels"] (spFormN n) := by
    intro n
    induction n with
    | zero =>
      show Cal P w K mg base CX0 5 "_law_form" ["_law_bag_here", "_law_due", "_law_levels"] (spFormN 0)
      exact S.cal sc__law_form bn__law_form (fun vs H Q E h => (show False from h).elim) (fun f cdv A outer s H vs Q E hr h => (show False from h).elim)
    | succ n C__law_form =>
      show Cal P w K mg base CX0 (5 + n + 1) "_law_form" ["_law_bag_here", "_law_due", "_law_levels"] (spFormN (n + 1))
      refine S.cal sc__law_form bn__law_form (fun vs H Q E h => ?_) (fun f cdv A outer s H vs Q E hr h => ?_)
      · first | (obtain ⟨rfl, _⟩ := h; rfl) | (obtain ⟨_, rfl, _⟩ := h; rfl) | (obtain ⟨_, _, rfl, _⟩ := h; rfl) | (obtain ⟨_, _, _, rfl, _⟩ := h; rfl) | (obtain ⟨_, _, _, _, rfl, _⟩ := h; rfl) | (obtain ⟨_, _, _, _, _, rfl, _⟩ := h; rfl) | (obtain ⟨_, _, _, _, _, _, rfl, _⟩ := h; rfl) | (obtain ⟨_, _, _, _, _, _, _, rfl, _⟩ := h; rfl) | (obtain ⟨_, _, _, _, _, _, _, _, rfl, _⟩ := h; rfl) | (obtain ⟨_, _, _, _, _, _, _, _, _, rfl, _⟩ := h; rfl) | (obtain ⟨_, _, _, _, _, _, _, _, _, _, rfl, _⟩ := h; rfl) | (obtain ⟨_, _, _, _, _, _, _, _, _, _, _, rfl, _⟩ := h; rfl) | (obtain ⟨_, _, _, _, _, _, _, _, _, _, _, _, rfl, _⟩ := h; rfl)
      · skip
        refine ⟨_, (pss_cons (ps_set (i := 3) sc__law_form.nd rfl (Or.inl rfl) (pe_ifExp (pt_cmpR op_eq (pv 1) pe_str (nomark _)) (pe_lst (Fx.pa_c pe_str (Fx.pa_c pe_str (Fx.pa_c pe_str pa_nil)))) (pe_lst (Fx.pa_c pe_str (Fx.pa_c pe_str (Fx.pa_c pe_str (Fx.pa_c pe_str (Fx.pa_c pe_str (Fx.pa_c pe_str pa_nil)))))))))
            (pss_cons (ps_if (PW.pt (pw_and (pt_cmpR op_gt (pv 2) pe_int (nomark _)) (pw_and (pt_cmpR op_gt (pe_dget (hu_of hr) (pv 0) pe_str (fun _ _ => rfl)) pe_int (nomark _)) (pw_and1 (pt_cmpR op_gt (Fx.pe_cal C__law_pick (hr.mono (by omega)) pass0 (Fx.pa_c (pv 0) (Fx.pa_c pe_int pa_nil))) pe_int (nomark _)))))) (pss_cons (ps_set (i := 3) sc__law_form.nd rfl (Or.inl rfl) (Fx.pe_cTy (call_list_dK rfl) T.b_list (by decide +kernel) (Fx.pa_c (Fx.pe_cal C__law_kinds (hr.mono (by omega)) pass0 (Fx.pa_c (pv 1) pa_nil)) pa_nil)))
            (pss_one (ps_dput (hu_of hr) (pv 0) pe_str (pe_op op_sub (pe_dget (hu_of hr) (pv 0) pe_str (fun _ _ => rfl)) pe_int) rfl))) pss_nil)
            (pss_cons (ps_set (i := 4) sc__law_form.nd rfl (Or.inl rfl) (pe_lst (Fx.pa_c (Fx.pe_cal C__law_choice (hr.mono (by omega)) pass0 (Fx.pa_c (pv 0) (Fx.pa_c (pv 3) pa_nil))) pa_nil)))
            (pss_cons (ps_if (pt_cmpR op_eq (pe_ix Fx.ix_L (pv 4) pe_int (fun _ _ => rfl)) pe_str (nomark _)) (pss_cons (ps_set (i := 5) sc__law_form.nd rfl (Or.inl rfl) (pe_m1 PySem.F.slot_str_join PySem.F.type_str_join Fx.mt_jn pe_str (pe_slice Fx.sl_L (Fx.pe_cal C__law_shuffled (hr.mono (by omega)) pass0 (Fx.pa_c (pv 0) (Fx.pa_c (pe_lst (Fx.pa_c pe_str (Fx.pa_c pe_str (Fx.pa_c pe_str (Fx.pa_c pe_str (Fx.pa_c pe_str (Fx.pa_c pe_str (Fx.pa_c pe_str pa_nil)))))))) pa_nil))) po_none (po_some (Fx.pe_cal C__law_pick (hr.mono (by omega)) pass0 (Fx.pa_c (pv 0) (Fx.pa_c pe_int pa_nil)))))))
            (pss_cons (ps_setLc (i := 6) (own := [("_law_letter", 8)]) rfl sc__law_form.nd rfl rfl (sw_true rfl rfl rfl (by decide +kernel)) (pi_str (pv 5)) (blkOk_by (N := N__law_form) (sc := defScope s__law_form) (by decide +kernel)) (fun _ _ _ _ _ => (pg_name (i := 8) sc__law_form.nd rfl (Or.inl rfl))) (fun _ _ _ _ _ => pts_nil) (fun _ _ _ _ _ => (Fx.pe_cal C__law_form (hr.mono (by omega)) pass0 (Fx.pa_c (pv 0) (Fx.pa_c (pe_ifExp (pt_cmpR op_in_sign (pv 8) pe_str rfl) pe_str pe_str) (Fx.pa_c (pe_op op_sub (pv 2) pe_int) pa_nil))))))
            (pss_one (ps_ret (pe_tup (Fx.pa_c pe_str (Fx.pa_c (Fx.pe_cal C__law_name (hr.mono (by omega)) pass0 (Fx.pa_c (pv 0) pa_nil)) (Fx.pa_c (pv 5) (Fx.pa_c (Fx.pe_cTy Fx.tup_L T.b_tuple (by decide +kernel) (Fx.pa_c (pv 6) pa_nil)) pa_nil))))))))) pss_nil)
            (pss_cons (ps_for PassesOwn.never rfl (pi_list (pe_dget (hu_of hr) (Fx.pe_cal C__law_kinds (hr.mono (by omega)) pass0 (Fx.pa_c (pv 1) pa_nil)) (pe_ix Fx.ix_L (pv 4) pe_int (fun _ _ => rfl)) (fun _ _ => rfl))) (pg_name (i := 7) sc__law_form.nd rfl (Or.inl rfl)) (pss_one (ps_expr (pe_bm PySem.F.plainAttrs_list PySem.F.slot_list_append PySem.F.type_list_append mt_append (pv 4) (Fx.pa_c (pe_ifExp (pt_cmpR Fx.in_S (pv 7) (pe_lst (Fx.pa_c pe_str (Fx.pa_c pe_str pa_nil))) rfl) (Fx.pe_cal C__law_form (hr.mono (by omega)) pass0 (Fx.pa_c (pv 0) (Fx.pa_c (pv 7) (Fx.pa_c (pe_op op_sub (pv 2) pe_int) pa_nil)))) (Fx.pe_cal C__law_small (hr.mono (by omega)) pass0 (Fx.pa_c (pv 0) (Fx.pa_c (pv 7) pa_nil)))) pa_nil)))))
            (pss_one (ps_ret (Fx.pe_cTy Fx.tup_L T.b_tuple (by decide +kernel) (Fx.pa_c (pv 4) pa_nil))))))))), ?_⟩
        obtain ⟨b, due, lv, rfl, hB, l1, l2, q⟩ := h
        have hBb := hB.bag
        obtain ⟨dw, edw⟩ : ∃ dw : Str, dw = if due = true then ("N" : Str) else "X" := ⟨_, rfl⟩
        refine seqI fun K1 k1 => ?_
        walk_at "rd"
        rw [← edw]
        have st1 : ∀ p, H p = none → K1 [some (.ref b), some (.str dw), some (.int lv), some (.ref p), none, none, none, none, none] (upd H p (.lst (ms (leafH due)))) := by
          intro p np
          have s1 := same_new (o := .lst (ms (leafH due))) np
          have hp : (upd H p (.lst (ms (leafH due)))) p = some (.lst (ms (leafH due))) := upd_same
          generalize upd H p (.lst (ms (leafH due))) = H1 at s1 hp
          refine k1 _ _ ?_
          clear k1
          have kp1 := Kp.same hBb s1
          have R1 := kp1.room hB
          refine seqI fun K2 k2 => ?_
          have main : ∀ (p2 : Addr) (hs : List Str) (H2 : Hp), Kp b H H2 → H2 p2 = some (.lst (ms hs)) → 0 < hs.length → hs.length ≤ 1000 → (∀ h ∈ hs, HdOk due lv h) → K2 [some (.ref b), some (.str dw), some (.int lv), some (.ref p2), none, none, none, none, none] H2 := by
            intro p2 hs H2 kp2 hp2 h0 hl hok
            refine k2 _ _ ?_
            clear k2
            have R2 := kp2.room hB
            refine seqI fun K1 k1 => ?_
            walk_at "rd"
            refine ⟨b, p2, _, rfl, kp2.bag, hp2, by unfold ms; rw [List.length_map]; exact h0, by unfold ms; rw [List.length_map]; omega, fun v H3 hv kp3 => ⟨by decide, fun pr npr => ?_⟩⟩
            obtain ⟨h, hh, rfl⟩ := List.mem_map.mp hv
            replace hok := hok h hh
            have kp4 := (kp2.trans kp3).then (same_new (o := .lst [.str h]) npr)
            have hr : (upd H3 pr (.lst [.str h])) pr = some (.lst [.str h]) := upd_same
            have npr0 : H pr = none := (kp2.trans kp3).free npr
            generalize upd H3 pr (.lst [.str h]) = H4 at kp4 hr
            clear hv kp3 npr hp2 kp2 R2 hh h0 hl
            refine k1 _ _ ?_
            clear k1
            have R4 := kp4.room hB
            obtain ⟨ks, hm, hlv⟩ := hok
            refine seqI fun K1 k1 => ?_
            walk_at "rd"
            refine ⟨_, hr, .str h, atI_get (i := 0) rfl, rfl, ite_i (fun hc => ?_) (fun hc => ?_)⟩
            · obtain rfl := V.str.inj hc
              obtain rfl : due = true := by
                cases due with
                | true => rfl
                | false =>
                  have := (head_ok hm).2.1
                  rw [show kindsOf false "call" = none by decide +kernel] at this
                  cases this
              have lv2 : 2 ≤ lv := hlv.resolve_right fun g => g.1 rfl
              clear hm hlv hc k1
              refine ⟨by decide, fun p7 np7 => ?_⟩
              have kp7 := kp4.then (same_new (o := .lst ((ltr7.map S1).map V.str)) np7)
              refine ⟨b, p7, (ltr7.map S1).map V.str, rfl, kp7.bag, upd_same, by decide, fun ps ys H8 pm kp8 nps hps => ?_⟩
              obtain ⟨ss, pm2, rfl⟩ := perm_map pm _ rfl
              obtain ⟨cs, pm3, rfl⟩ := perm_map pm2 _ rfl
              clear pm pm2
              replace kp8 := kp7.trans kp8
              clear kp7 np7 kp4 hr
              refine ⟨b, 4, rfl, kp8.bag, by decide, by decide, fun m H9 m0 m1 kp9 => ⟨m, rfl, ps, rfl, _, kp9.lst kp8.bag hps, fun p10 np10 => ?_⟩⟩
              obtain ⟨m, rfl⟩ := ni_nat m0
              have mle : m ≤ 3 := by omega
              have ecut : cutV ((cs.map S1).map V.str) none (some (m : Int)) = ((cs.take m).map S1).map V.str := by rw [cutV_hi, List.map_take, List.map_take]
              rw [ecut]
              have kp10 := (kp8.trans kp9).then (same_new (o := .lst (((cs.take m).map S1).map V.str)) np10)
              generalize upd H9 p10 (.lst (((cs.take m).map S1).map V.str)) = H10 at kp10
              clear kp9 kp8 hps nps np10 m0 m1
              have lcs : (cs.take m).length ≤ 3 := by rw [List.length_take]; omega
              refine ⟨(cs.take m).map S1, rfl, join_fits (by omega), ?_⟩
              obtain ⟨z, hz⟩ : ∃ z, z = Txt.join "" ((cs.take m).map S1) := ⟨_, rfl⟩
              have hzl : z.cps.toList = cs.take m := by rw [hz, join_S1]
              have lz : z.cps.toList.length = z.length := Array.length_toList
              rw [← hz]
              have hpr : prOk z = true := by
                unfold prOk
                simp only [Bool.and_eq_true, List.all_eq_true, decide_eq_true_eq]
                refine ⟨by rw [← lz, hzl]; exact lcs, fun c hc => ?_, ?_⟩
                · rw [hzl] at hc
                  exact pm3.subset (List.mem_of_mem_take hc)
                · rw [hzl]
                  exact (pm3.nodup_iff.mpr (by decide)).sublist (List.take_sublist _ _)
              clear hz pm3 ecut
              refine ⟨.str z, rfl, z, rfl, fun D nD => ?_⟩
              have nD0 : H D = none := kp10.free nD
              have eC : ("abcd" : Str).cps.toList = ltrN := by decide +kernel
              obtain ⟨l, rfl⟩ : ∃ l, lv = l + 1 := ⟨lv - 1, by omega⟩
              refine lc_S (z := z) (fun i H2 => ∃ vs ds ws, H2 D = some (.lst vs) ∧ DvAll H2 vs ds ∧ Pts l ((prKinds z).take i) ds ws ∧ Kp b H H2) ⟨[], [], [], upd_same, .nil, by rw [List.take_zero]; exact .nil, Kp.put hBb kp10 nD0⟩ ?_ ?_
              · rintro i c H2 hc ⟨vs, ds, ws, hD2, hv2, pt2, kp2⟩
                refine ⟨rfl, ?_⟩
                have hil := (List.getElem?_eq_some_iff.mp hc).1
                have ei : (prKinds z)[i]? = some ((if c ∈ ltrN then ("N" : Str) else ("X" : Str)) : Str) := by
                  unfold prKinds
                  rw [List.getElem?_map, hc]
                  rfl
                have tk : (prKinds z).take (i + 1) = (prKinds z).take i ++ [if c ∈ ltrN then ("N" : Str) else ("X" : Str)] := by
                  rw [List.take_add_one, ei]
                  rfl
                have vl := hv2.len
                have dl := (pts_s (fm_s l) pt2).2
                rw [List.length_take] at dl
                have p3 := prk_len hpr
                walk_at "rd"
                refine ⟨c, rfl, ?_⟩
                rw [eC]
                have step : ∀ (u : Str) (g : Bool), u = (if g = true then ("N" : Str) else "X") → u = (if c ∈ ltrN then ("N" : Str) else "X") → spFormN n [V.ref b, V.str u, V.int (((l + 1 : Nat) : Int) - 1)] H2
                    (fun y H4 => ∃ acc, H4 D = some (HO.lst acc) ∧ acc.length < sizeLine ∧ ∃ x, DvAll (upd H4 D (HO.lst (acc ++ [y]))) (acc ++ [y]) x ∧ ∃ x_1, Pts l (List.take (i + 1) (prKinds z)) x x_1 ∧ Kp b H (upd H4 D (HO.lst (acc ++ [y])))) E0 := by
                  intro u g e1 e2
                  rw [e1]
                  refine call_form (l := l) (by omega) (by omega) (by omega) (kp2.room hB) fun v d w H4 kp4 dv hf => ?_
                  have hD4 := kp4.lst kp2.bag hD2
                  refine ⟨vs, hD4, ?_, ds ++ [d], ?_, ws ++ w, ?_, Kp.put hBb (kp2.trans kp4) nD0⟩
                  · exact Nat.lt_of_le_of_lt (show _ ≤ 10 by omega) (by decide)
                  · exact ((hv2.kp kp2.bag kp4).putL (pts_n (fm_n l) pt2) hD4).app (.cons (dv.putL (fm_n l hf) hD4) .nil)
                  · rw [tk, ← e2]
                    exact pts_snoc pt2 e1 hf
                refine ite_i (fun g => step "N" true rfl (by rw [if_pos g])) (fun g => step "X" false rfl (by rw [if_neg g]))
              · rintro H2 ⟨vs, ds, ws, hD2, hv2, pt2, kp2⟩
                rw [List.take_of_length_le (by unfold prKinds; rw [List.length_map]; exact Nat.le_refl _)] at pt2
                refine ⟨b, rfl, kp2.bag, fun nm H3 hnm kp3 => ⟨D, rfl, vs, kp3.lst kp2.bag hD2, fun pl npl => ⟨by decide, fun pt npt => ?_⟩⟩⟩
                have s4 := same_new (o := .tup vs) npl
                have s5 := same_new (o := .tup [.str "call", .str nm, .str z, .ref pl]) npt
                refine q _ _ _ _ (((kp2.trans kp3).then s4).then s5) (.tup upd_same (.cons (.str _) (.cons (.str _) (.cons (.str _) (.cons (.tup (s5 _ _ upd_same) (((hv2.kp kp2.bag kp3).same s4).same s5)) .nil))))) (.call hnm hpr pt2)
            · refine k1 _ _ ?_
              clear k1
              clear kp1 s1 np R1 hp
              have hc2 : h ≠ "call" := fun e => hc (by rw [e])
              obtain ⟨kf1, kf2⟩ := kind_fact hm hc2
              obtain ⟨l, rfl⟩ : ∃ l, lv = l + 1 := ⟨lv - 1, by omega⟩
              have kne : ks ≠ [h] := by
                have := List.all_eq_true.mp (show (formsT due).all (fun p => decide (p.2 ≠ [p.1])) = true by cases due <;> decide +kernel) _ hm
                exact of_decide_eq_true this
              refine seqI fun K1 k1 => ?_
              refine forI fun R0 hR => ?_
              walk_at "rd"
              refine ⟨due, by rw [edw], fun pd kvs H5 s5 npd ra ek hpd => ?_⟩
              have kp5 := kp4.then s5
              have hr5 := s5 _ _ hr
              rcases ra.val h ek with ⟨n1, _⟩ | ⟨row, al, n1, n2, n3⟩
              · rw [kf1] at n1
                cases n1
              rw [kf1] at n1
              cases n1
              have nal : al ≠ pr := fun e => by
                rw [e, hr5] at n3
                have e2 : [V.str h] = ms ks := HO.lst.inj (Option.some.inj n3)
                refine kne ?_
                cases ks with
                | nil => cases e2
                | cons a r =>
                  cases r with
                  | nil =>
                    have := V.str.inj (List.cons.inj e2).1
                    rw [this]
                  | cons c r => cases (List.cons.inj e2).2
              refine ⟨_, hr5, .str h, atI_get (i := 0) rfl, pd, rfl, .ref al, by rw [← n2]; exact DGet.k (k := Sum.inr h) hpd, al, rfl, ⟨_, .inl (.inl n3)⟩, hR _ _ (for_list (K := K) (a := al) (xs := ms ks) (fun i σ H' => ∃ vs ds ws v7, σ = [some (.ref b), some (.str dw), some (.int (l + 1 : Nat)), some (.ref p2), some (.ref pr), none, none, v7, none] ∧ H' pr = some (.lst (.str h :: vs)) ∧ DvAll H' vs ds ∧ Pts l (ks.take i) ds ws ∧ H' al = some (.lst (ms ks)) ∧ Kp b H H') ⟨[], [], [], none, rfl, hr5, .nil, by rw [List.take_zero]; exact .nil, n3, kp5⟩ (fun i σ H' _ ⟨_, _, _, _, _, _, _, _, e, _⟩ => .inl (.inl e)) ?_ ?_)⟩
              · rintro i y σ H' hy ⟨vs, ds, ws, v7, rfl, hr', hv', pt', hal', kp'⟩
                obtain ⟨k, rfl, hk⟩ : ∃ k, y = .str k ∧ ks[i]? = some k := by
                  unfold ms at hy
                  rw [List.getElem?_map] at hy
                  cases e : ks[i]? with
                  | none => rw [e] at hy; cases hy
                  | some k => rw [e] at hy; exact ⟨k, (Option.some.inj hy).symm, rfl⟩
                clear hR
                walk_at "rd"
                refine ⟨tyL hr', by decide, fun pt npt => ⟨["N", "X"], .inl upd_same, ?_⟩⟩
                have sT := same_new (o := .lst [.str "N", .str "X"]) npt
                have kp6 := kp'.then sT
                have hr6 := sT _ _ hr'
                have hal6 := sT _ _ hal'
                have hv6 := hv'.same sT
                generalize upd H' pt (.lst [.str "N", .str "X"]) = H6 at kp6 hr6 hal6 hv6
                have lv6 := hv6.len
                have lk := (kinds_len (head_ok hm).2.1)
                have dl := (pts_s (fm_s l) pt').2
                rw [List.length_take] at dl
                have tk : ks.take (i + 1) = ks.take i ++ [k] := by
                  rw [List.take_add_one, hk]
                  rfl
                have fin : ∀ (x : V) (d : PyData) (w : List Str) (H7 : Hp), Kp b H6 H7 → Dv H7 x d → noL d = true → Pts l (ks.take i ++ [k]) (ds ++ [d]) (ws ++ w) → ∃ x_1, H7 pr = some (HO.lst x_1) ∧ x_1.length < sizeLine ∧ ∃ vs, x_1 ++ [x] = V.str h :: vs ∧ ∃ x_2, DvAll (upd H7 pr (HO.lst (x_1 ++ [x]))) vs x_2 ∧ ∃ x_3, Pts l (List.take (i + 1) ks) x_2 x_3 ∧ upd H7 pr (HO.lst (x_1 ++ [x])) al = some (HO.lst (ms ks)) ∧ Kp b H (upd H7 pr (HO.lst (x_1 ++ [x]))) := by
                  intro x d w H7 kp7 dv nd pt7
                  have hr7 := kp7.lst kp6.bag hr6
                  refine ⟨_, hr7, ?_, vs ++ [x], rfl, ds ++ [d], ?_, ws ++ w, by rw [tk]; exact pt7, ?_, Kp.put hBb (kp6.trans kp7) npr0⟩
                  · rw [List.length_cons]
                    exact Nat.lt_of_le_of_lt (show _ ≤ 100 by omega) (by decide)
                  · exact ((hv6.kp kp6.bag kp7).putL (pts_n (fm_n l) pt') hr7).app (.cons (dv.putL nd hr7) .nil)
                  · rw [upd_ne nal]
                    exact kp7.lst kp6.bag hal6
                have hkm := List.mem_of_getElem? hk
                refine ite_i (fun g => ?_) (fun g => ?_)
                · have g2 : k = "N" ∨ k = "X" := by simpa using g
                  have lv2 : 2 ≤ l + 1 := hlv.resolve_right fun z => by
                    have := z.2 k hkm
                    rw [show isF2 k = true from decide_eq_true g2] at this
                    cases this
                  have e1 : k = if decide (k = "N") = true then ("N" : Str) else ("X" : Str) := by
                    rcases g2 with rfl | rfl <;> decide
                  have go : spFormN n [V.ref b, V.str (if decide (k = "N") = true then ("N" : Str) else ("X" : Str)), V.int (((l + 1 : Nat) : Int) - 1)] H6 (fun x H1 => ∃ x_1, H1 pr = some (HO.lst x_1) ∧ x_1.length < sizeLine ∧ ∃ vs, x_1 ++ [x] = V.str h :: vs ∧ ∃ x_2, DvAll (upd H1 pr (HO.lst (x_1 ++ [x]))) vs x_2 ∧ ∃ x_3, Pts l (List.take (i + 1) ks) x_2 x_3 ∧ upd H1 pr (HO.lst (x_1 ++ [x])) al = some (HO.lst (ms ks)) ∧ Kp b H (upd H1 pr (HO.lst (x_1 ++ [x])))) E0 :=
                    call_form (l := l) (by omega) (by omega) (by omega) (kp6.room hB) fun v d w H7 kp7 dv hf => fin v d w H7 kp7 dv (fm_n l hf) (pts_snoc pt' e1 hf)
                  rw [← e1] at go
                  exact go
                · have g2 : k ∈ smallK := (kf2 k hkm).resolve_left fun z => g (by
                    have := of_decide_eq_true (show decide (k = "N" ∨ k = "X") = true from z)
                    simpa using this)
                  obtain ⟨f2, np⟩ := smallK_f2 k g2
                  exact ⟨b, k, rfl, g2, kp6.bag, fun w d H7 ht kp7 => fin (vD d) d [w] H7 kp7 (vD_dv ht) (vD_nl ht) (pt'.app (.sm f2 np ht .nil))⟩
              · rintro σ H' ⟨vs, ds, ws, v7, rfl, hr', hv', pt', hal', kp'⟩
                clear hR
                refine k1 _ _ ?_
                clear k1
                walk_at "rd"
                rw [List.take_of_length_le (by unfold ms; rw [List.length_map]; exact Nat.le_refl _)] at pt'
                obtain ⟨w', hf⟩ := fm_make hm hc2 pt'
                exact ⟨_, hr', fun pl npl => q _ _ w' _ (kp'.then (same_new npl)) (.tup upd_same (.cons (.str h) (hv'.same (same_new npl)))) hf⟩
          refine ifI fun A B ka kb => ?_
          walk_at "rd"
          have toB : ∀ H3, Kp b H H3 → H3 p = some (.lst (ms (leafH due))) → B H3 := fun H3 kp3 hp3 => kb _ (main p (leafH due) H3 kp3 hp3 (by cases due <;> decide) (by cases due <;> decide) fun h hh => leaf_ok hh)
          refine ite_i (fun c1 => ?_) (fun _ => toB H1 kp1 hp)
          obtain ⟨c, ns, a0, r0, m0, n0, ro, hb, hro, hcc, ha⟩ := R1
          cases ro with
          | none => cases hro
          | some z =>
            refine ⟨.int z, by rw [← bagR_room]; exact DGet.k (k := Sum.inr "room") hb, z, rfl, ite_i (fun c2 => ?_) (fun _ => toB H1 kp1 hp)⟩
            refine ⟨b, 4, rfl, kp1.bag, by decide, by decide, fun x H3 x0 x1 kp3 => ⟨x, rfl, ite_i (fun c3 => ka _ ?_) (fun _ => toB H3 (kp1.trans kp3) (kp3.lst kp1.bag hp))⟩⟩
            have kp4 := kp1.trans kp3
            have R4 := kp4.room hB
            clear hb hro hcc ha kp3 x0 x1 c3 c2 toB
            walk_at "rd"
            refine ⟨due, by rw [edw], fun pd kvs H5 s5 npd ra ek hpd => ⟨pd, rfl, kvs, hpd, fun pl npl => ?_⟩⟩
            have ekv : (kvs.map fun kv => kV kv.1) = ms ((kindR due).map (·.1)) := by
              have := congrArg (List.map kV) ek
              rw [List.map_map, List.map_map] at this
              unfold ms
              rw [List.map_map]
              exact this
            rw [ekv]
            have kp6 := (kp4.then s5).then (same_new (o := .lst (ms ((kindR due).map (·.1)))) npl)
            have hpl : (upd H5 pl (.lst (ms ((kindR due).map (·.1))))) pl = some (.lst (ms ((kindR due).map (·.1)))) := upd_same
            generalize upd H5 pl (.lst (ms ((kindR due).map (·.1)))) = H6 at kp6 hpl
            clear ra hpd npd s5 ek ekv R4 kp4
            obtain ⟨c, ns, a0, r0, m0, n0, ro, hb, hro, hcc, ha⟩ := kp6.room hB
            cases ro with
            | none => cases hro
            | some z =>
              refine ⟨.int z, by rw [← bagR_room]; exact DGet.k (k := Sum.inr "room") hb, z, rfl, _, DPut.k (k := Sum.inr "room") hb (Nat.lt_of_lt_of_le bagR_len (by decide)), ?_⟩
              rw [bagR_roomP]
              have kp7 := room_kp (v := z - 1) hb hcc ha
              exact main pl _ _ (kp6.trans kp7) (kp7.lst kp6.bag hpl) (by cases due <;> decide) (by cases due <;> decide) fun h hh => all_ok (by omega) hh
        cases due
        · rw [if_pos (show dw = "X" from edw)]
          exact ⟨by decide, fun p np => st1 p np⟩
        · rw [if_neg (by rw [show dw = "N" from edw]; decide)]
          exact ⟨by decide, fun p np => st1 p np⟩
  exact go 6
end
section
variable {P : Program} {w : World} {K : PySem.W.Frag} {mg : Str → Option Value} {base : Heap}
theorem ok__law_form_text (S : Src K mg "_law_form_text" s__law_form_text) (T : Tx P K mg) (TD : Td w K)   : Cal P w K mg base CX0 8 "_law_form_text" ["_law_form_here"] (spFormTextN 7) := by
  have go : ∀ n : Nat, Cal P w K mg base CX0 (1 + n) "_law_form_text" ["_law_form_here"] (spFormTextN n) := by
    intro n
    induction n with
    | zero =>
      show Cal P w K mg base CX0 1 "_law_form_text" ["_law_form_here"] (spFormTextN 0)
      exact S.cal sc__law_form_text bn__law_form_text (fun vs H Q E h => (show False from h).elim) (fun f cdv A outer s H vs Q E hr h => (show False from h).elim)
    | succ n C__law_form_text =>
      show Cal P w K mg base CX0 (1 + n + 1) "_law_form_text" ["_law_form_here"] (spFormTextN (n + 1))
      refine S.cal sc__law_form_text bn__law_form_text (fun vs H Q E h => ?_) (fun f cdv A outer s H vs Q E hr h => ?_)
      · first | (obtain ⟨rfl, _⟩ := h; rfl) | (obtain ⟨_, rfl, _⟩ := h; rfl) | (obtain ⟨_, _, rfl, _⟩ := h; rfl) | (obtain ⟨_, _, _, rfl, _⟩ := h; rfl) | (obtain ⟨_, _, _, _, rfl, _⟩ := h; rfl) | (obtain ⟨_, _, _, _, _, rfl, _⟩ := h; rfl) | (obtain ⟨_, _, _, _, _, _, rfl, _⟩ := h; rfl) | (obtain ⟨_, _, _, _, _, _, _, rfl, _⟩ := h; rfl) | (obtain ⟨_, _, _, _, _, _, _, _, rfl, _⟩ := h; rfl) | (obtain ⟨_, _, _, _, _, _, _, _, _, rfl, _⟩ := h; rfl) | (obtain ⟨_, _, _, _, _, _, _, _, _, _, rfl, _⟩ := h; rfl) | (obtain ⟨_, _, _, _, _, _, _, _, _, _, _, rfl, _⟩ := h; rfl) | (obtain ⟨_, _, _, _, _, _, _, _, _, _, _, _, rfl, _⟩ := h; rfl)
      · skip
        refine ⟨_, (pss_cons (ps_if (pt_cmpR Fx.in_S (pe_ix Fx.ix_T (pv 0) pe_int (fun _ _ => rfl)) (pe_lst (Fx.pa_c pe_str (Fx.pa_c pe_str (Fx.pa_c pe_str pa_nil)))) rfl) (pss_one (ps_ret (Fx.pe_cTy Fx.str_C T.b_str (by decide +kernel) (Fx.pa_c (pe_ix Fx.ix_T (pv 0) pe_int (fun _ _ => rfl)) pa_nil)))) pss_nil)
            (pss_cons (ps_set (i := 1) sc__law_form_text.nd rfl (Or.inl rfl) (pe_lst (Fx.pa_c (pe_ix Fx.ix_T (pv 0) pe_int (fun _ _ => rfl)) pa_nil)))
            (pss_cons (ps_if (pt_cmpR op_eq (pe_ix Fx.ix_T (pv 0) pe_int (fun _ _ => rfl)) pe_str (nomark _)) (pss_cons (ps_expr (pe_bm PySem.F.plainAttrs_list PySem.F.slot_list_extend PySem.F.type_list_extend mt_extend (pv 1) (Fx.pa_c (pe_lst (Fx.pa_c (pe_ix Fx.ix_T (pv 0) pe_int (fun _ _ => rfl)) (Fx.pa_c (pe_ifExp (pt_cmpR op_ne (pe_ix Fx.ix_T (pv 0) pe_int (fun _ _ => rfl)) pe_str (nomark _)) (pe_ix Fx.ix_T (pv 0) pe_int (fun _ _ => rfl)) pe_str) pa_nil))) pa_nil)))
            (pss_one (ps_ret (pe_m1 PySem.F.slot_str_join PySem.F.type_str_join Fx.mt_jn pe_str (pe_op op_cat (pv 1) (pe_lc (own := [("_law_one", 3)]) rfl sc__law_form_text.nd (pi_tup (pe_ix Fx.ix_T (pv 0) pe_int (fun _ _ => rfl))) (blkOk_by (N := N__law_form_text) (sc := defScope s__law_form_text) (by decide +kernel)) (fun _ _ _ _ _ => (pg_name (i := 3) sc__law_form_text.nd rfl (Or.inl rfl))) (fun _ _ _ _ _ => pts_nil) (fun _ _ _ _ _ => (Fx.pe_cal C__law_form_text (hr.mono (by omega)) pass0 (Fx.pa_c (pv 3) pa_nil))))))))) pss_nil)
            (pss_cons (ps_for PassesOwn.never rfl (pi_tup (pe_slice sl_tupA (pv 0) (po_some pe_int) po_none)) (pg_name (i := 2) sc__law_form_text.nd rfl (Or.inl rfl)) (pss_one (ps_expr (pe_bm PySem.F.plainAttrs_list PySem.F.slot_list_append PySem.F.type_list_append mt_append (pv 1) (Fx.pa_c (pe_ifExp (pt_val (Fx.pe_cB Fx.is_B T.b_isinstance (by decide +kernel) (Fx.pa_c (pv 2) (Fx.pa_c (pe_bltn (v := .ty "tuple") (by rfl) T.b_tuple (by decide +kernel) rfl) pa_nil)))) (Fx.pe_cal C__law_form_text (hr.mono (by omega)) pass0 (Fx.pa_c (pv 2) pa_nil)) (Fx.pe_cTy Fx.str_C T.b_str (by decide +kernel) (Fx.pa_c (pv 2) pa_nil))) pa_nil)))))
            (pss_one (ps_ret (pe_m1 PySem.F.slot_str_join PySem.F.type_str_join Fx.mt_jn pe_str (pv 1)))))))), ?_⟩
        obtain ⟨v, d, due, lv, w, rfl, dv, hf, hlv, hn, q⟩ := h
        obtain ⟨wp, w1, w2⟩ := fm_size hf (by omega)
        obtain ⟨ds0, rfl⟩ : ∃ ds, d = .tuple ds := by cases hf <;> exact ⟨_, rfl⟩
        obtain ⟨a, vs, rfl, ha, hvs⟩ := dv.inv_tup
        have one : ∀ z : Str, joinW [z] = z := joinW_one
        refine seqI fun K1 k1 => ?_
        walk_at "rd"
        have hd : ∀ (h : Str) (xs : List V), vs = .str h :: xs → (¬ h ∈ (["is", "get", "at"] : List Str)) → (∀ p H1, Same H H1 → H p = none → H1 p = some (.lst [.str "is", .str "get", .str "at"]) → K1 [some (.ref a), none, none, none] H1) → ∃ x, H a = some (HO.tup x) ∧ ∃ v, atI x 0 = some v ∧ 3 ≤ sizeLine ∧ ∀ (p : Addr), H p = none → ∃ z, v = V.str z ∧ ∃ l, Sq (upd H p (HO.lst [V.str "is", V.str "get", V.str "at"])) p (ms l) ∧
            if z ∈ l then ∃ x, upd H p (HO.lst [V.str "is", V.str "get", V.str "at"]) a = some (HO.tup x) ∧ ∃ v, atI x 1 = some v ∧ ((∃ i, v = V.int i ∧ i.natAbs.log2 < 1920 ∧ Q (V.str (Str.ofString (toString i))) (upd H p (HO.lst [V.str "is", V.str "get", V.str "at"]))) ∨ ∃ a, v = V.str a ∧ Q (V.str a) (upd H p (HO.lst [V.str "is", V.str "get", V.str "at"])))
            else K1 [some (V.ref a), none, none, none] (upd H p (HO.lst [V.str "is", V.str "get", V.str "at"])) := by
          intro h xs e hn k
          rw [e] at ha
          exact ⟨_, ha, .str h, atI_get (i := 0) rfl, by decide, fun p np => ⟨h, rfl, ["is", "get", "at"], .inl upd_same, Fx.ifF hn (k p _ (same_new np) np upd_same)⟩⟩
        cases hf with
        | @is _ i hi =>
          obtain ⟨v0, v1, rfl, d0, d1⟩ := hvs.inv2
          rw [d0.inv_str, d1.inv_int] at ha
          refine ⟨_, ha, _, atI_get (i := 0) rfl, by decide, fun p np => ⟨"is", rfl, ["is", "get", "at"], .inl upd_same, Fx.ifT (by decide) ⟨_, same_new np _ _ ha, _, at1, .inl ⟨_, rfl, Nat.lt_of_le_of_lt (Nat.log2_le_self _) (by omega), ?_⟩⟩⟩⟩
          rw [one] at q
          exact q _ (same_new np)
        | @get _ z hz =>
          obtain ⟨v0, v1, rfl, d0, d1⟩ := hvs.inv2
          rw [d0.inv_str, d1.inv_str] at ha
          refine ⟨_, ha, _, atI_get (i := 0) rfl, by decide, fun p np => ⟨"get", rfl, ["is", "get", "at"], .inl upd_same, Fx.ifT (by decide) ⟨_, same_new np _ _ ha, _, at1, .inr ⟨_, rfl, ?_⟩⟩⟩⟩
          rw [one] at q
          exact q _ (same_new np)
        | @«at» _ z hz =>
          obtain ⟨v0, v1, rfl, d0, d1⟩ := hvs.inv2
          rw [d0.inv_str, d1.inv_str] at ha
          refine ⟨_, ha, _, atI_get (i := 0) rfl, by decide, fun p np => ⟨"at", rfl, ["is", "get", "at"], .inl upd_same, Fx.ifT (by decide) ⟨_, same_new np _ _ ha, _, at1, .inr ⟨_, rfl, ?_⟩⟩⟩⟩
          rw [one] at q
          exact q _ (same_new np)
        | @call l nm pr ds ws hnm hpr pt =>
          obtain ⟨v0, vs1, rfl, d0, hvs⟩ := hvs.inv_cons
          obtain ⟨v1, v2, v3, rfl, d1, d2, d3⟩ := hvs.inv3
          obtain ⟨t, ys, rfl, ht, hys⟩ := d3.inv_tup
          rw [d0.inv_str, d1.inv_str, d2.inv_str] at ha
          rw [d0.inv_str] at hd
          refine hd "call" _ rfl (by decide) fun p H1 s1 np hp => ?_
          clear hd
          replace ha := s1 _ _ ha
          replace ht := s1 _ _ ht
          replace hys := hys.same s1
          refine k1 _ _ ?_
          clear k1
          refine seqI fun K1 k1 => ?_
          walk_at "rd"
          refine ⟨_, ha, _, atI_get (i := 0) rfl, by decide, fun pr1 npr => ?_⟩
          have s2 := s1.trans (same_new (o := .lst [.str "call"]) npr)
          have hr : (upd H1 pr1 (.lst [.str "call"])) pr1 = some (.lst [.str "call"]) := upd_same
          replace ha := same_new (o := .lst [.str "call"]) npr _ _ ha
          replace ht := same_new (o := .lst [.str "call"]) npr _ _ ht
          replace hys := hys.same (same_new (o := .lst [.str "call"]) npr)
          have npr0 := s1.free npr
          generalize upd H1 pr1 (.lst [.str "call"]) = H2 at s2 hr ha ht hys
          clear hp npr s1 np
          refine k1 _ _ ?_
          clear k1
          refine seqI fun K1 k1 => ?_
          walk_at "rd"
          have eprw : ((if pr = "" then (V.str "-") else V.str pr) : V) = V.str (if pr = "" then ("-" : Str) else pr) := by split <;> rfl
          obtain ⟨prw, hprw⟩ : ∃ prw : Str, prw = (if pr = "" then ("-" : Str) else pr) := ⟨_, rfl⟩
          rw [← hprw] at wp w2 q
          have lps := (pts_s (fm_s l) pt)
          have npts := pts_n (fm_n l) pt
          have lys := hys.len
          have tail : ∀ (H3 : Hp) (p3 : Addr), Same H2 H3 → H2 p3 = none → (∃ x, H3 pr1 = some (HO.lst x) ∧ x.length + 2 ≤ sizeLine ∧ tLc (iTup K (tOp rIxTt (tVar 0) (tC (V.int 3)))) (gName 3) tYes (tCall (spFormTextN n) [] E0 (tCons (tVar 3) tNil)) [3] [some (V.ref a), some (V.ref pr1), none, none] (upd H3 pr1 (HO.lst (x ++ [V.str nm, V.str prw]))) fun y H2 => ∃ x, y = V.ref x ∧ ∃ x_1, H2 pr1 = some (HO.lst x_1) ∧ ∃ x_2, H2 x = some (HO.lst x_2) ∧ x_1.length + x_2.length ≤ sizeLine ∧ ∀ (p : Addr), H2 p = none → ∃ x, x_1 ++ x_2 = List.map V.str x ∧ (List.map (fun x => x.length) x).sum + x.length * " ".length ≤ 16777216 ∧ Q (V.str (Txt.join " " x)) (upd H2 p (HO.lst (x_1 ++ x_2)))) := by
            intro H3 p3 s3 np3
            refine ⟨_, s3 _ _ hr, by decide, ?_⟩
            have np0 : H pr1 = none := npr0
            have hr4 : (upd H3 pr1 (HO.lst ([V.str "call"] ++ [V.str nm, V.str prw]))) pr1 = some (.lst (ms ["call", nm, prw])) := upd_same
            have ht4 : (upd H3 pr1 (HO.lst ([V.str "call"] ++ [V.str nm, V.str prw]))) t = some (.tup ys) := by rw [upd_ne (ne_of ht hr (by intro z; cases z))]; exact s3 _ _ ht
            have ha4 : (upd H3 pr1 (HO.lst ([V.str "call"] ++ [V.str nm, V.str prw]))) a = some (.tup [V.str "call", V.str nm, V.str pr, V.ref t]) := by rw [upd_ne (ne_of ha hr (by intro z; cases z))]; exact s3 _ _ ha
            have hys4 : DvAll (upd H3 pr1 (HO.lst ([V.str "call"] ++ [V.str nm, V.str prw]))) ys ds := (hys.same s3).putL npts (s3 _ _ hr)
            have s4 : Same H (upd H3 pr1 (HO.lst ([V.str "call"] ++ [V.str nm, V.str prw]))) := Same.put (s2.trans s3) np0
            generalize upd H3 pr1 (HO.lst ([V.str "call"] ++ [V.str nm, V.str prw])) = H4 at hr4 ht4 ha4 hys4 s4
            refine ⟨.ref a, rfl, a, 3, _, rfl, rfl, ha4, .ref t, at3, t, rfl, ⟨_, .inl (.inl ht4)⟩, fun D nD => ?_⟩
            refine lc_tup (K := K) (a := t) (xs := ys) (fun i H2 => ∃ ts, TxOk ws l (prKinds pr) ds i 0 ts ∧ H2 D = some (.lst (ms ts)) ∧ H2 t = some (.tup ys) ∧ DvAll H2 ys ds ∧ H2 pr1 = some (.lst (ms ["call", nm, prw])) ∧ Same H H2) ⟨[], ⟨[], ws, rfl, (by intro u hu; cases hu), rfl, pt, rfl⟩, upd_same, same_new nD _ _ ht4, hys4.same (same_new nD), same_new nD _ _ hr4, s4.trans (same_new nD)⟩ (fun i H2 _ ⟨_, _, _, e, _⟩ => .inl (.inl e)) ?_ ?_
            · rintro i y H5 hy ⟨ts, tx, hD5, ht5, hys5, hr5, s5⟩
              obtain ⟨d, hd1, hd2⟩ := hys5.get hy
              obtain ⟨k, u, tx2, hk, h1, h2⟩ := tx_step tx hd1
              refine ⟨rfl, ?_⟩
              walk_at "rd"
              have fk : isF2 k = true := by
                unfold prKinds at hk
                rw [List.getElem?_map] at hk
                cases e : pr.cps.toList[i]? with
                | none => rw [e] at hk; cases hk
                | some c =>
                  rw [e] at hk
                  have hk2 := Option.some.inj hk
                  rw [← hk2]
                  show isF2 (if c ∈ ltrN then ("N" : Str) else "X") = true
                  by_cases g : c ∈ ltrN
                  · rw [if_pos g]
                    decide +kernel
                  · rw [if_neg g]
                    decide +kernel
              have lts : ts.length ≤ 10 := by
                obtain ⟨wss, wr, rfl, _, _, p, hl⟩ := tx
                have := (List.getElem?_eq_some_iff.mp hd1).1
                have := prk_len hpr
                rw [List.length_map]
                omega
              refine call_text (by omega) (by omega) hd2 (h1 fk) fun H6 s6 => ⟨_, s6 _ _ hD5, ?_, ts ++ [joinW u], tx2, ?_, ?_, ?_, ?_, Same.put (s5.trans s6) (s4.free nD)⟩
              · unfold ms
                rw [List.length_map]
                exact Nat.lt_of_le_of_lt lts (by decide)
              · unfold ms
                rw [List.map_append]
                rfl
              · rw [upd_ne (ne_of ht5 hD5 (by intro z; cases z))]
                exact s6 _ _ ht5
              · exact (hys5.same s6).putL npts (s6 _ _ hD5)
              · rw [upd_ne (fun e => by rw [← e, hr4] at nD; cases nD)]
                exact s6 _ _ hr5
            · rintro H5 ⟨ts, tx, hD5, ht5, hys5, hr5, s5⟩
              obtain ⟨wss, rfl, hn5, hf5⟩ := tx_end tx (by omega)
              have ef : (([["call"], [nm], [prw]] : List (List Str)) ++ wss).flatten = ("call" : Str) :: nm :: prw :: ws := by
                rw [List.flatten_append, hf5]
                rfl
              have em : (([["call"], [nm], [prw]] : List (List Str)) ++ wss).map joinW = (["call", nm, prw] : List Str) ++ wss.map joinW := by
                rw [List.map_append, List.map_cons, List.map_cons, List.map_cons, one, one, one]
                rfl
              have hn6 : ∀ u ∈ (([["call"], [nm], [prw]] : List (List Str)) ++ wss), u ≠ [] := fun u hu => by
                rcases List.mem_append.mp hu with hu | hu
                · simp only [List.mem_cons, List.not_mem_nil, or_false] at hu
                  rcases hu with rfl | rfl | rfl <;> simp
                · exact hn5 u hu
              rw [← ef] at wp w2 q
              obtain ⟨j1, j2⟩ := tx_join wp hn6 (by omega)
              have l5 := (tx_size wp hn6).2
              rw [em] at j1 j2
              refine ⟨D, rfl, _, hr5, _, hD5, ?_, fun p6 np6 => ⟨(["call", nm, prw] : List Str) ++ wss.map joinW, ?_, j1, ?_⟩⟩
              · unfold ms
                rw [List.length_map, List.length_map, List.length_map]
                rw [List.length_append] at l5
                exact Nat.le_trans (show _ ≤ 10000 by simp only [List.length_cons, List.length_nil] at *; omega) (by decide)
              · unfold ms
                rw [List.map_append]
              · rw [j2]
                exact q _ (s5.trans (same_new np6))
          refine ⟨_, ha, .str "call", atI_get (i := 0) rfl, rfl, Fx.ifT rfl ⟨tyL hr, _, ha, .str nm, at1, _, ha, .str pr, at2, rfl, ite_i (fun e => ⟨by decide, fun p3 np3 => ?_⟩) (fun e => ⟨_, ha, .str pr, at2, by decide, fun p3 np3 => ?_⟩)⟩⟩
          · have := tail (upd H2 p3 (HO.lst [V.str nm, V.str "-"])) p3 (same_new np3) np3
            rw [show prw = "-" by rw [hprw, if_pos (V.str.inj e)]] at this
            exact this
          · have := tail (upd H2 p3 (HO.lst [V.str nm, V.str pr])) p3 (same_new np3) np3
            rw [show prw = pr by rw [hprw, if_neg (fun z => e (by rw [z]))]] at this
            exact this
        | @nd _ l h ks ds ws hm h1 h2 h3 h4 pt =>
          obtain ⟨v0, vs1, rfl, d0, hvs⟩ := hvs.inv_cons
          rw [d0.inv_str] at ha hd
          refine hd h _ rfl (by simp [h1, h2, h3]) fun p H1 s1 np hp => ?_
          clear hd
          replace ha := s1 _ _ ha
          replace hvs := hvs.same s1
          refine k1 _ _ ?_
          clear k1
          refine seqI fun K1 k1 => ?_
          walk_at "rd"
          refine ⟨_, ha, _, atI_get (i := 0) rfl, by decide, fun pr1 npr => ?_⟩
          have s2 := s1.trans (same_new (o := .lst [.str h]) npr)
          have hr : (upd H1 pr1 (.lst [.str h])) pr1 = some (.lst [.str h]) := upd_same
          replace ha := same_new (o := .lst [.str h]) npr _ _ ha
          replace hvs := hvs.same (same_new (o := .lst [.str h]) npr)
          have npr0 := s1.free npr
          generalize upd H1 pr1 (.lst [.str h]) = H2 at s2 hr ha hvs
          clear hp npr s1 np
          refine k1 _ _ ?_
          clear k1
          refine seqI fun K1 k1 => ?_
          walk_at "rd"
          refine ⟨_, ha, _, atI_get (i := 0) rfl, rfl, Fx.ifF (fun e => h4 (V.str.inj e)) ?_⟩
          refine k1 _ _ ?_
          clear k1
          refine seqI fun K1 k1 => ?_
          refine forI fun R0 hR => ?_
          walk_at "rd"
          have lvs := hvs.len
          have lps := (pts_s (fm_s l) pt)
          have npts := pts_n (fm_n l) pt
          have lk := kinds_len (head_ok hm).2.1
          have go : ∀ (t : Addr) (H3 : Hp), Same H2 H3 → H3 t = some (.tup vs1) → R0 (Itt K t) H3 := by
            intro t H3 s3 ht
            refine hR _ _ (for_tup (K := K) (a := t) (xs := vs1) (fun i σ H' => ∃ ts v2, σ = [some (.ref a), some (.ref pr1), v2, none] ∧ TxOk (h :: ws) l ks ds i 1 ts ∧ H' pr1 = some (.lst (ms ts)) ∧ H' t = some (.tup vs1) ∧ DvAll H' vs1 ds ∧ Same H H') ⟨[h], none, rfl, ⟨[[h]], ws, by rw [List.map_cons, List.map_nil, one], by simp, rfl, pt, rfl⟩, s3 _ _ hr, ht, hvs.same s3, s2.trans s3⟩ (fun i σ H' _ ⟨_, _, _, _, _, e, _⟩ => .inl (.inl e)) ?_ ?_)
            · rintro i y σ H' hy ⟨ts, v2, rfl, tx, hr', ht', hv', s'⟩
              clear hR
              obtain ⟨d, hd1, hd2⟩ := hv'.get hy
              obtain ⟨k, u, tx2, hk, g1, g2⟩ := tx_step tx hd1
              have lts : ts.length ≤ 20 := by
                obtain ⟨wss, wr, rfl, _, _, p, hl⟩ := tx
                have := (List.getElem?_eq_some_iff.mp hd1).1
                rw [List.length_map]
                omega
              have fin : ∀ H5, Same H' H5 → ∃ x_1, H5 pr1 = some (HO.lst x_1) ∧ x_1.length < sizeLine ∧ ∃ ts, TxOk (h :: ws) l ks ds (i + 1) 1 ts ∧ x_1 ++ [V.str (joinW u)] = ms ts ∧ upd H5 pr1 (HO.lst (x_1 ++ [V.str (joinW u)])) t = some (HO.tup vs1) ∧ DvAll (upd H5 pr1 (HO.lst (x_1 ++ [V.str (joinW u)]))) vs1 ds ∧ Same H (upd H5 pr1 (HO.lst (x_1 ++ [V.str (joinW u)]))) := by
                intro H5 s5
                refine ⟨_, s5 _ _ hr', ?_, _, tx2, ?_, ?_, (hv'.same s5).putL npts (s5 _ _ hr'), Same.put (s'.trans s5) npr0⟩
                · unfold ms
                  rw [List.length_map]
                  exact Nat.lt_of_le_of_lt lts (by decide)
                · unfold ms
                  rw [List.map_append]
                  rfl
                · rw [upd_ne (ne_of ht' hr' (by intro z; cases z))]
                  exact s5 _ _ ht'
              walk_at "rd"
              refine ⟨tyL hr', ?_⟩
              cases fk : isF2 k with
              | true =>
                have hf := g1 fk
                obtain ⟨ds2, rfl⟩ := fm_tup hf
                obtain ⟨a2, vs2, rfl, ha2, hvs2⟩ := hd2.inv_tup
                exact ⟨"tuple", tyv_tup ha2, true, kb_tuple_tuple, Fx.ifT rfl (call_text (by omega) (by omega) hd2 hf fin)⟩
              | false =>
                have fin2 := fin H' (Same.refl H')
                rcases g2 fk with ⟨j, hj, rfl, rfl⟩ | ⟨z, rfl, rfl⟩
                · rw [one] at fin2
                  rw [hd2.inv_int]
                  exact ⟨"int", tyv_int, false, kb_int_tup, Fx.ifF (by decide) (.inl ⟨_, rfl, Nat.lt_of_le_of_lt (Nat.log2_le_self _) (by omega), fin2⟩)⟩
                · rw [one] at fin2
                  rw [hd2.inv_str]
                  exact ⟨"str", tyv_str, false, kb_str_tup, Fx.ifF (by decide) (.inr ⟨_, rfl, fin2⟩)⟩
            · rintro σ H' ⟨ts, v2, rfl, tx, hr', ht', hv', s'⟩
              clear hR
              obtain ⟨wss, rfl, hn, hf⟩ := tx_end tx (by omega)
              rw [← hf] at wp w2 q
              obtain ⟨j1, j2⟩ := tx_join wp hn (by omega)
              refine k1 _ _ ?_
              clear k1
              walk_at "rd"
              refine ⟨_, hr', j1, ?_⟩
              rw [j2]
              exact q H' s'
          refine ⟨a, _, rfl, .inl (.inl ha), fun e => ⟨a, rfl, ⟨_, .inl (.inl ha)⟩, ?_⟩, fun _ pt2 npt => ⟨pt2, rfl, ⟨_, .inl (.inl upd_same)⟩, ?_⟩⟩
          · exfalso
            have := e.1
            rw [show (some 1 : Option Int) = some ((1 : Nat) : Int) from rfl, HT.sIx_nat, List.length_cons] at this
            omega
          · rw [show cutV (V.str h :: vs1) (some 1) none = vs1 from cutV_lo _ 1] at *
            exact go pt2 _ (same_new npt) upd_same
  exact go 7
end
section
variable {P : Program} {w : World} {K : PySem.W.Frag} {mg : Str → Option Value} {base : Heap}
theorem ok__law_read (S : Src K mg "_law_read" s__law_read) (T : Tx P K mg) (TD : Td w K) (C_read_form : Cal P w K mg base (L2.CX P w) 8 "read_form" ["text", "due"] (spReadForm K))  : CalG P w K mg base CX0 9 "_law_read" ["_law_text", "_law_due"] spReadL := by
  refine S.calG sc__law_read bn__law_read (fun vs H Q E h => ?_) (fun f cdv A outer s H vs Q E hG hr h => ?_)
  · first | (obtain ⟨rfl, _⟩ := h; rfl) | (obtain ⟨_, rfl, _⟩ := h; rfl) | (obtain ⟨_, _, rfl, _⟩ := h; rfl) | (obtain ⟨_, _, _, rfl, _⟩ := h; rfl) | (obtain ⟨_, _, _, _, rfl, _⟩ := h; rfl) | (obtain ⟨_, _, _, _, _, rfl, _⟩ := h; rfl) | (obtain ⟨_, _, _, _, _, _, rfl, _⟩ := h; rfl) | (obtain ⟨_, _, _, _, _, _, _, rfl, _⟩ := h; rfl) | (obtain ⟨_, _, _, _, _, _, _, _, rfl, _⟩ := h; rfl) | (obtain ⟨_, _, _, _, _, _, _, _, _, rfl, _⟩ := h; rfl) | (obtain ⟨_, _, _, _, _, _, _, _, _, _, rfl, _⟩ := h; rfl) | (obtain ⟨_, _, _, _, _, _, _, _, _, _, _, rfl, _⟩ := h; rfl) | (obtain ⟨_, _, _, _, _, _, _, _, _, _, _, _, rfl, _⟩ := h; rfl)
  · skip
    refine ⟨_, (pss_cons (ps_try_as (i := 3) rfl rfl sc__law_read.nd rfl rfl ⟨rfl, by decide, Or.inl T.g_FableError⟩ takes0 (fun W pn xe tk _ => (pss_one (ps_set (i := 2) sc__law_read.nd rfl (Or.inl rfl) (Fx.pe_calS C_read_form (hr.mono (by decide)) tk (Fx.pa_c (pv 0) (Fx.pa_c (pv 1) pa_nil)))))) (fun a oe cls d pn hz hf => (pss_cons (ps_if (PW.pt (pw_or (pt_not (pt_val (Fx.pe_cB (call_isY hz hf) T.b_isinstance (by decide +kernel) (Fx.pa_c (pv 3) (Fx.pa_c (pe_glob (v := .ref (He.ga K "BadLine")) rfl T.g_BadLine rfl) pa_nil))))) (pw_or (pt_not (pt_val (Fx.pe_cB (call_isY hz hf) T.b_isinstance (by decide +kernel) (Fx.pa_c (pv 3) (Fx.pa_c (pe_bltn (v := .ty "ValueError") (by rfl) T.b_ValueError (by decide +kernel) rfl) pa_nil))))) (pw_or1 (pt_val (Fx.pe_cB (call_isY hz hf) T.b_isinstance (by decide +kernel) (Fx.pa_c (pv 3) (Fx.pa_c (pe_glob (v := .ref (He.ga K "BadPart")) rfl T.g_BadPart rfl) pa_nil)))))))) (pss_one (ps_ret (pe_lst (Fx.pa_c pe_str (Fx.pa_c pe_str pa_nil))))) pss_nil)
        (pss_one (ps_ret (pe_lst (Fx.pa_c pe_str (Fx.pa_c (Fx.pe_cB (Fx.call_reprK (K := K) rfl hG hr.units) T.b_repr (by decide +kernel) (Fx.pa_c (pe_lst (Fx.pa_c (pe_xf (XC2.xfc T.x_BadLine) T.x_BadLine.noF hz hf (pv 3)) (Fx.pa_c (pe_xf (XC2.xfc T.x_BadLine) T.x_BadLine.noG hz hf (pv 3)) pa_nil))) pa_nil)) pa_nil))))))))
        (pss_one (ps_ret (pe_lst (Fx.pa_c pe_str (Fx.pa_c (Fx.pe_cB (Fx.call_reprK (K := K) rfl hG hr.units) T.b_repr (by decide +kernel) (Fx.pa_c (pv 2) pa_nil)) pa_nil)))))), ?_⟩
    obtain ⟨z, due, rfl, hz, q⟩ := h
    have fr : ∀ {H1 : Hp} {r : Addr}, Same H H1 → H1 r = none → H r = none := fun s n => s.free n
    refine seqI fun K1 k1 => ?_
    walk_at "rd"
    refine ⟨z, due, rfl, hz, wsOk hz, ?_⟩
    rcases q with ⟨d, ro, sm, q⟩ | ⟨p, re, hp, q⟩
    · refine .inl ⟨d, ro, fun H1 v s1 dv => ?_⟩
      refine k1 _ _ ?_
      clear k1
      walk_at "rd"
      have a1 := sm.shw (K := K) (Dv.dp _ _ dv) (by decide) (by decide)
      exact ⟨d, a1.1, a1.2, a1.3, a1.4, a1.5, by decide, fun r nr => q r _ (s1.trans (same_new nr)) (s1.free nr) upd_same⟩
    · refine .inr ⟨p, re, fun e H1 s1 ne he => ?_⟩
      refine ⟨true, T.m_BL, fun _ a0 na => ?_, fun z => Bool.noConfusion z⟩
      have efs : ∃ fs, H1 e = some (.xd fs) := ⟨_, he⟩
      have sb := sm_bad hp
      walk_at "rd"
      simp only [rIsY, tXf]
      walk_at "rd"
      refine ⟨_, rfl, efs, T.e_BadLine, _, rfl, _, T.k_BL, ?_⟩
      rw [if_neg (by decide)]
      refine ⟨_, rfl, efs, T.e_BadLine, _, rfl, _, T.k_VE, ?_⟩
      rw [if_neg (by decide)]
      refine ⟨_, rfl, efs, T.e_BadLine, _, rfl, _, T.k_BP, ?_⟩
      rw [if_neg (by decide)]
      refine ⟨_, he, _, rfl, _, he, _, rfl, by decide, fun pl npl => ⟨badD p, Dv.dp _ _ (.lst upd_same (.cons (.int 1) (.cons (.int _) .nil))), sb.sh, sb.nd, Nat.le_trans sb.dep (by decide), Nat.le_trans sb.len (by decide), by decide, fun r nr => ?_⟩⟩
      have s2 := s1.trans (same_new (o := .lst [.int 1, .int (p : Nat)]) npl)
      exact q r _ (s2.trans (same_new nr)) (s2.free nr) upd_same
end
section
variable {P : Program} {w : World} {K : PySem.W.Frag} {mg : Str → Option Value} {base : Heap}
theorem ok__law_bad (S : Src K mg "_law_bad" s__law_bad) (T : Tx P K mg) (TD : Td w K)   : CalG P w K mg base CX0 1 "_law_bad" ["_law_place"] spBadL := by
  refine S.calG sc__law_bad bn__law_bad (fun vs H Q E h => ?_) (fun f cdv A outer s H vs Q E hG hr h => ?_)
  · first | (obtain ⟨rfl, _⟩ := h; rfl) | (obtain ⟨_, rfl, _⟩ := h; rfl) | (obtain ⟨_, _, rfl, _⟩ := h; rfl) | (obtain ⟨_, _, _, rfl, _⟩ := h; rfl) | (obtain ⟨_, _, _, _, rfl, _⟩ := h; rfl) | (obtain ⟨_, _, _, _, _, rfl, _⟩ := h; rfl) | (obtain ⟨_, _, _, _, _, _, rfl, _⟩ := h; rfl) | (obtain ⟨_, _, _, _, _, _, _, rfl, _⟩ := h; rfl) | (obtain ⟨_, _, _, _, _, _, _, _, rfl, _⟩ := h; rfl) | (obtain ⟨_, _, _, _, _, _, _, _, _, rfl, _⟩ := h; rfl) | (obtain ⟨_, _, _, _, _, _, _, _, _, _, rfl, _⟩ := h; rfl) | (obtain ⟨_, _, _, _, _, _, _, _, _, _, _, rfl, _⟩ := h; rfl) | (obtain ⟨_, _, _, _, _, _, _, _, _, _, _, _, rfl, _⟩ := h; rfl)
  · skip
    refine ⟨_, (pss_one (ps_ret (pe_lst (Fx.pa_c pe_str (Fx.pa_c (Fx.pe_cB (Fx.call_reprK (K := K) rfl hG hr.units) T.b_repr (by decide +kernel) (Fx.pa_c (pe_lst (Fx.pa_c pe_int (Fx.pa_c (pv 0) pa_nil))) pa_nil)) pa_nil))))), ?_⟩
    obtain ⟨n, rfl, hn, q⟩ := h
    walk_at "rd"
    have sb := sm_bad hn
    refine ⟨by decide, fun p np => ⟨badD n, Dv.dp _ _ (.lst upd_same (.cons (.int 1) (.cons (.int _) .nil))), sb.sh, sb.nd, Nat.le_trans sb.dep (by decide), Nat.le_trans sb.len (by decide), by decide, fun r nr => ?_⟩⟩
    have s1 := same_new (o := .lst [.int 1, .int (n : Nat)]) np
    refine q r _ (s1.trans (same_new nr)) ?_ upd_same
    cases e : H r with
    | none => rfl
    | some o => rw [s1 _ _ e] at nr; cases nr
end
section
variable {P : Program} {w : World} {K : PySem.W.Frag} {mg : Str → Option Value} {base : Heap}
theorem ok__law_other (S : Src K mg "_law_other" s__law_other) (T : Tx P K mg) (TD : Td w K) (C__law_reserved : Cal P w K mg base CX0 1 "_law_reserved" [] spResL) (C__law_bad : CalG P w K mg base CX0 1 "_law_bad" ["_law_place"] spBadL)  : CalG P w K mg base CX0 2 "_law_other" ["_law_form_here"] spOtherL := by
  refine S.calG sc__law_other bn__law_other (fun vs H Q E h => ?_) (fun f cdv A outer s H vs Q E hG hr h => ?_)
  · first | (obtain ⟨rfl, _⟩ := h; rfl) | (obtain ⟨_, rfl, _⟩ := h; rfl) | (obtain ⟨_, _, rfl, _⟩ := h; rfl) | (obtain ⟨_, _, _, rfl, _⟩ := h; rfl) | (obtain ⟨_, _, _, _, rfl, _⟩ := h; rfl) | (obtain ⟨_, _, _, _, _, rfl, _⟩ := h; rfl) | (obtain ⟨_, _, _, _, _, _, rfl, _⟩ := h; rfl) | (obtain ⟨_, _, _, _, _, _, _, rfl, _⟩ := h; rfl) | (obtain ⟨_, _, _, _, _, _, _, _, rfl, _⟩ := h; rfl) | (obtain ⟨_, _, _, _, _, _, _, _, _, rfl, _⟩ := h; rfl) | (obtain ⟨_, _, _, _, _, _, _, _, _, _, rfl, _⟩ := h; rfl) | (obtain ⟨_, _, _, _, _, _, _, _, _, _, _, rfl, _⟩ := h; rfl) | (obtain ⟨_, _, _, _, _, _, _, _, _, _, _, _, rfl, _⟩ := h; rfl)
  · skip
    refine ⟨_, (pss_cons (ps_if (PW.pt (pw_and (pt_cmpR Fx.in_S (pe_ix Fx.ix_T (pv 0) pe_int (fun _ _ => rfl)) (pe_lst (Fx.pa_c pe_str (Fx.pa_c pe_str pa_nil))) rfl) (pw_and1 (pt_cmpR Fx.notIn_S (pe_ix Fx.ix_T (pv 0) pe_int (fun _ _ => rfl)) (Fx.pe_cal0 C__law_reserved (hr.mono (by decide)) pass0) rfl)))) (pss_one (ps_ret (pe_lst (Fx.pa_c pe_str (Fx.pa_c (Fx.pe_cB (Fx.call_reprK (K := K) rfl hG hr.units) T.b_repr (by decide +kernel) (Fx.pa_c (pe_tup (Fx.pa_c (pe_ifExp (pt_cmpR op_eq (pe_ix Fx.ix_T (pv 0) pe_int (fun _ _ => rfl)) pe_str (nomark _)) pe_str pe_str) (Fx.pa_c (pe_ix Fx.ix_T (pv 0) pe_int (fun _ _ => rfl)) pa_nil))) pa_nil)) pa_nil))))) pss_nil)
        (pss_one (ps_ret (Fx.pe_calG C__law_bad hG (hr.mono (by decide)) pass0 (Fx.pa_c pe_int pa_nil))))), ?_⟩
    obtain ⟨v, d, due, lv, w, rfl, dv, hf, q⟩ := h
    refine seqI fun K1 k1 => ?_
    walk_at "rd"
    rcases q with ⟨z, rfl, hz, rfl, q⟩ | ⟨c, q⟩
    · obtain ⟨a, vs, rfl, ha, hvs⟩ := dv.inv_tup
      obtain ⟨v0, v1, rfl, d0, d1⟩ := hvs.inv2
      rw [d0.inv_str, d1.inv_str] at ha
      have hpz := (fm_w lv hf).1 z List.mem_cons_self
      clear hf dv hvs d0 d1
      refine ⟨a, rfl, _, ha, _, atI_get (i := 0) rfl, by decide, fun p np => ⟨_, rfl, ["get", "at"], .inl upd_same, Fx.ifT (by cases due <;> decide) ⟨a, rfl, _, same_new np _ _ ha, .str z, at1, rfl, fun r H2 s2 nr hr => ⟨z, rfl, r, rfl, resW, .inl hr, Fx.ifF hz ⟨a, rfl, _, s2 _ _ (same_new np _ _ ha), _, atI_get (i := 0) rfl, rfl, ?_⟩⟩⟩⟩⟩
      have s3 := (same_new (o := .lst [.str "get", .str "at"]) np).trans s2
      replace ha := s3 _ _ ha
      clear hr nr s2
      have sm : ∀ u : Str, plainW u = true → Sm (.tuple [.str u, .str z]) 1 267 := fun u hu => (sm_tupS (.cons (sm_plain hu) (.cons (sm_plain hpz) .nil))).mono (by decide) (by simp)
      cases due
      · have s := sm "get" (by decide +kernel)
        refine Fx.ifF (by decide) ⟨a, rfl, _, ha, .str z, at1, by decide, fun pt npt => ⟨_, Dv.dp _ _ (.tup upd_same (.cons (.str _) (.cons (.str _) .nil))), s.sh, s.nd, Nat.le_trans s.dep (by decide), Nat.le_trans s.len (by decide), by decide, fun r nr => ?_⟩⟩
        have s4 := s3.trans (same_new (o := .tup [.str "get", .str z]) npt)
        exact q r _ (s4.trans (same_new nr)) (s4.free nr) upd_same
      · have s := sm "at" (by decide +kernel)
        refine Fx.ifT rfl ⟨a, rfl, _, ha, .str z, at1, by decide, fun pt npt => ⟨_, Dv.dp _ _ (.tup upd_same (.cons (.str _) (.cons (.str _) .nil))), s.sh, s.nd, Nat.le_trans s.dep (by decide), Nat.le_trans s.len (by decide), by decide, fun r nr => ?_⟩⟩
        have s4 := s3.trans (same_new (o := .tup [.str "at", .str z]) npt)
        exact q r _ (s4.trans (same_new nr)) (s4.free nr) upd_same
    · have fin : ∀ H1, Same H H1 → K1 [some v] H1 := fun H1 s1 => by
        refine k1 _ _ ?_
        clear k1
        walk_at "rd"
        exact ⟨1, rfl, by decide, fun r H2 s2 nr hr => q r H2 (s1.trans s2) (s1.free nr) hr⟩
      rcases c with ⟨z, rfl, hz⟩ | ⟨h, ds, rfl, h1, h2⟩
      · obtain ⟨a, vs, rfl, ha, hvs⟩ := dv.inv_tup
        obtain ⟨v0, v1, rfl, d0, d1⟩ := hvs.inv2
        rw [d0.inv_str, d1.inv_str] at ha
        exact ⟨a, rfl, _, ha, _, atI_get (i := 0) rfl, by decide, fun p np => ⟨_, rfl, ["get", "at"], .inl upd_same, Fx.ifT (by cases due <;> decide) ⟨a, rfl, _, same_new np _ _ ha, .str z, at1, rfl, fun r H2 s2 nr hr => ⟨z, rfl, r, rfl, resW, .inl hr, Fx.ifT hz (fin _ ((same_new np).trans s2))⟩⟩⟩⟩
      · obtain ⟨a, vs, rfl, ha, hvs⟩ := dv.inv_tup
        obtain ⟨v0, vs1, rfl, d0, hvs⟩ := hvs.inv_cons
        rw [d0.inv_str] at ha
        exact ⟨a, rfl, _, ha, _, atI_get (i := 0) rfl, by decide, fun p np => ⟨_, rfl, ["get", "at"], .inl upd_same, Fx.ifF (by simp [h1, h2]) (fin _ (same_new np))⟩⟩
end
section
variable {P : Program} {w : World} {K : PySem.W.Frag} {mg : Str → Option Value} {base : Heap}
theorem ok__law_refused (S : Src K mg "_law_refused" s__law_refused) (T : Tx P K mg) (TD : Td w K) (C__law_choice : Cal P w K mg base CX0 2 "_law_choice" ["_law_bag_here", "_law_things"] spChoiceL) (C__law_read : CalG P w K mg base CX0 9 "_law_read" ["_law_text", "_law_due"] spReadL) (C__law_bad : CalG P w K mg base CX0 1 "_law_bad" ["_law_place"] spBadL) (C__law_pick : Cal P w K mg base CX0 1 "_law_pick" ["_law_bag_here", "_law_many"] spPick)  : CalG P w K mg base CX0 10 "_law_refused" ["_law_bag_here", "_law_text", "_law_due"] spRefL := by
  refine S.calG sc__law_refused bn__law_refused (fun vs H Q E h => ?_) (fun f cdv A outer s H vs Q E hG hr h => ?_)
  · first | (obtain ⟨rfl, _⟩ := h; rfl) | (obtain ⟨_, rfl, _⟩ := h; rfl) | (obtain ⟨_, _, rfl, _⟩ := h; rfl) | (obtain ⟨_, _, _, rfl, _⟩ := h; rfl) | (obtain ⟨_, _, _, _, rfl, _⟩ := h; rfl) | (obtain ⟨_, _, _, _, _, rfl, _⟩ := h; rfl) | (obtain ⟨_, _, _, _, _, _, rfl, _⟩ := h; rfl) | (obtain ⟨_, _, _, _, _, _, _, rfl, _⟩ := h; rfl) | (obtain ⟨_, _, _, _, _, _, _, _, rfl, _⟩ := h; rfl) | (obtain ⟨_, _, _, _, _, _, _, _, _, rfl, _⟩ := h; rfl) | (obtain ⟨_, _, _, _, _, _, _, _, _, _, rfl, _⟩ := h; rfl) | (obtain ⟨_, _, _, _, _, _, _, _, _, _, _, rfl, _⟩ := h; rfl) | (obtain ⟨_, _, _, _, _, _, _, _, _, _, _, _, rfl, _⟩ := h; rfl)
  · skip
    refine ⟨_, (pss_cons (ps_set (i := 3) sc__law_refused.nd rfl (Or.inl rfl) (pe_m1 PySem.F.slot_str_split PySem.F.type_str_split mt_split (pv 1) pe_str))
        (pss_cons (ps_set (i := 4) sc__law_refused.nd rfl (Or.inl rfl) (Fx.pe_cB Fx.len_L T.b_len (by decide +kernel) (Fx.pa_c (pv 3) pa_nil)))
        (pss_cons (ps_set (i := 5) sc__law_refused.nd rfl (Or.inl rfl) (Fx.pe_cal C__law_choice (hr.mono (by decide)) pass0 (Fx.pa_c (pv 0) (Fx.pa_c (pe_lst (Fx.pa_c pe_str (Fx.pa_c pe_str (Fx.pa_c pe_str (Fx.pa_c pe_str (Fx.pa_c pe_str (Fx.pa_c pe_str (Fx.pa_c pe_str pa_nil)))))))) pa_nil))))
        (pss_cons (ps_if (pt_cmpR (Fx.ne_LL hr.units) (Fx.pe_calG C__law_read hG (hr.mono (by decide)) pass0 (Fx.pa_c (pe_op op_add_str (pe_op op_add_str (pv 1) pe_str) (pv 5)) (Fx.pa_c (pv 2) pa_nil))) (Fx.pe_calG C__law_bad hG (hr.mono (by decide)) pass0 (Fx.pa_c (pe_op op_add (pv 4) pe_int) pa_nil)) (nomark _)) (pss_one (ps_ret pe_bl)) pss_nil)
        (pss_cons (ps_if (pt_cmpR (Fx.ne_LL hr.units) (Fx.pe_calG C__law_read hG (hr.mono (by decide)) pass0 (Fx.pa_c (pe_m1 PySem.F.slot_str_join PySem.F.type_str_join Fx.mt_jn pe_str (pe_slice Fx.sl_L (pv 3) po_none (po_some (pe_op op_sub (pv 4) pe_int)))) (Fx.pa_c (pv 2) pa_nil))) (Fx.pe_calG C__law_bad hG (hr.mono (by decide)) pass0 (Fx.pa_c (pv 4) pa_nil)) (nomark _)) (pss_one (ps_ret pe_bl)) pss_nil)
        (pss_cons (ps_set (i := 6) sc__law_refused.nd rfl (Or.inl rfl) (Fx.pe_cal C__law_pick (hr.mono (by decide)) pass0 (Fx.pa_c (pv 0) (Fx.pa_c (pe_op op_add (pv 4) pe_int) pa_nil))))
        (pss_cons (ps_if (pt_cmpR (Fx.ne_LL hr.units) (Fx.pe_calG C__law_read hG (hr.mono (by decide)) pass0 (Fx.pa_c (pe_m1 PySem.F.slot_str_join PySem.F.type_str_join Fx.mt_jn pe_str (pe_op op_cat (pe_op op_cat (pe_slice Fx.sl_L (pv 3) po_none (po_some (pv 6))) (pe_lst (Fx.pa_c pe_str pa_nil))) (pe_slice Fx.sl_L (pv 3) (po_some (pv 6)) po_none))) (Fx.pa_c (pv 2) pa_nil))) (Fx.pe_calG C__law_bad hG (hr.mono (by decide)) pass0 (Fx.pa_c (pe_op op_add (pv 6) pe_int) pa_nil)) (nomark _)) (pss_one (ps_ret pe_bl)) pss_nil)
        (pss_cons (ps_set (i := 6) sc__law_refused.nd rfl (Or.inl rfl) (Fx.pe_cal C__law_pick (hr.mono (by decide)) pass0 (Fx.pa_c (pv 0) (Fx.pa_c (pv 4) pa_nil))))
        (pss_cons (ps_set (i := 7) sc__law_refused.nd rfl (Or.inl rfl) (Fx.pe_cal C__law_choice (hr.mono (by decide)) pass0 (Fx.pa_c (pv 0) (Fx.pa_c (pe_lst (Fx.pa_c pe_str (Fx.pa_c pe_str (Fx.pa_c pe_str (Fx.pa_c pe_str (Fx.pa_c pe_str (Fx.pa_c pe_str (Fx.pa_c pe_str (Fx.pa_c pe_str (Fx.pa_c pe_str pa_nil)))))))))) pa_nil))))
        (pss_cons (ps_if (pt_cmpR (Fx.ne_LL hr.units) (Fx.pe_calG C__law_read hG (hr.mono (by decide)) pass0 (Fx.pa_c (pe_m1 PySem.F.slot_str_join PySem.F.type_str_join Fx.mt_jn pe_str (pe_op op_cat (pe_op op_cat (pe_slice Fx.sl_L (pv 3) po_none (po_some (pv 6))) (pe_lst (Fx.pa_c (pv 7) pa_nil))) (pe_slice Fx.sl_L (pv 3) (po_some (pe_op op_add (pv 6) pe_int)) po_none))) (Fx.pa_c (pv 2) pa_nil))) (Fx.pe_calG C__law_bad hG (hr.mono (by decide)) pass0 (Fx.pa_c (pe_op op_add (pv 6) pe_int) pa_nil)) (nomark _)) (pss_one (ps_ret pe_bl)) pss_nil)
        (pss_cons (ps_if (pt_cmpR (Fx.ne_LL hr.units) (Fx.pe_calG C__law_read hG (hr.mono (by decide)) pass0 (Fx.pa_c (pe_op op_add_str (Fx.pe_cal C__law_choice (hr.mono (by decide)) pass0 (Fx.pa_c (pv 0) (Fx.pa_c (pe_lst (Fx.pa_c pe_str (Fx.pa_c pe_str (Fx.pa_c pe_str pa_nil)))) pa_nil))) (pv 1)) (Fx.pa_c (pv 2) pa_nil))) (Fx.pe_calG C__law_bad hG (hr.mono (by decide)) pass0 (Fx.pa_c pe_int pa_nil)) (nomark _)) (pss_one (ps_ret pe_bl)) pss_nil)
        (pss_cons (ps_set (i := 7) sc__law_refused.nd rfl (Or.inl rfl) (Fx.pe_cal C__law_choice (hr.mono (by decide)) pass0 (Fx.pa_c (pv 0) (Fx.pa_c (pe_lst (Fx.pa_c pe_str (Fx.pa_c pe_str (Fx.pa_c pe_str (Fx.pa_c pe_str (Fx.pa_c pe_str (Fx.pa_c pe_str (Fx.pa_c pe_str (Fx.pa_c pe_str (Fx.pa_c pe_str pa_nil)))))))))) pa_nil))))
        (pss_one (ps_ret (pe_cmpR (Fx.eq_LL hr.units) (Fx.pe_calG C__law_read hG (hr.mono (by decide)) pass0 (Fx.pa_c (pv 7) (Fx.pa_c (pv 2) pa_nil))) (Fx.pe_calG C__law_bad hG (hr.mono (by decide)) pass0 (Fx.pa_c pe_int pa_nil)) (nomark _)))))))))))))))), ?_⟩
    obtain ⟨b, due, lv, d, w, rfl, hB, hf, hl, q⟩ := h
    obtain ⟨wp, w1, w2⟩ := fm_size hf hl
    have w13 := plain_len wp
    refine seqI fun K1 k1 => ?_
    walk_at "rd"
    refine ⟨by decide +kernel, Nat.le_trans (show _ ≤ 100000 by omega) (by decide), fun pw npw => ?_⟩
    rw [split_j (fm_ne hf) (plain_bl wp)]
    have s1 := same_new (o := .lst (w.map V.str)) npw
    have hw : (upd H pw (.lst (w.map V.str))) pw = some (.lst (ms w)) := upd_same
    generalize upd H pw (.lst (w.map V.str)) = H1 at s1 hw
    have kp1 := Kp.same hB s1
    clear npw
    refine k1 _ _ ?_
    clear k1
    refine seqI fun K1 k1 => ?_
    walk_at "rd"
    refine ⟨_, hw, ?_⟩
    refine k1 _ _ ?_
    clear k1
    refine seqI fun K1 k1 => ?_
    walk_at "rd"
    refine ⟨by decide, fun pc npc => ?_⟩
    have kp2 := kp1.then (same_new (o := .lst (ms mores)) npc)
    have hw2 := same_new (o := .lst (ms mores)) npc _ _ hw
    refine ⟨b, pc, ms mores, rfl, kp2.bag, upd_same, by decide, by decide, fun v H3 hv kp3 => ?_⟩
    obtain ⟨more, hmore, rfl⟩ := List.mem_map.mp hv
    replace hw := kp3.lst kp2.bag hw2
    have kp4 := kp2.trans kp3
    have lw : (ms w).length = w.length := List.length_map _
    rw [lw]
    clear hv hw2 kp3 kp2 npc kp1 s1
    refine k1 _ _ ?_
    clear k1
    refine seqI fun K1 k1 => ?_
    walk_at "rd"
    have lm := more_ok more hmore
    have l1 : (" " : Str).length = 1 := by decide +kernel
    have la := len_app
    refine ⟨Nat.le_trans (show _ ≤ 100000 by omega) (by decide), Nat.le_trans (show _ ≤ 100000 by rw [la]; omega) (by decide), ask_bad (p := w.length + 1) (by omega) (by rw [la, la]; omega) (by omega) (ref_more hf lm.2) fun H4 s4 => ?_⟩
    replace hw := s4 _ _ hw
    replace kp4 := kp4.then s4
    clear s4 lm
    refine k1 _ _ ?_
    clear k1
    refine seqI fun K1 k1 => ?_
    walk_at "rd"
    obtain ⟨t1, t2⟩ := fits13 (L := w.take (w.length - 1)) (fun x hx => plain13 wp x (List.mem_of_mem_take hx)) (by rw [List.length_take]; omega)
    refine ⟨_, hw, fun pa npa => ⟨w.take (w.length - 1), by rw [show ((w.length : Nat) : Int) - 1 = ((w.length - 1 : Nat) : Int) by omega, cut_hi], t1, ask_bad (p := w.length) rfl t2 (by omega) (ref_cut hf) fun H5 s5 => ?_⟩⟩
    have s45 := (same_new npa).trans s5
    replace hw := s45 _ _ hw
    replace kp4 := kp4.then s45
    clear s45 s5 npa t1 t2
    refine k1 _ _ ?_
    clear k1
    refine seqI fun K1 k1 => ?_
    walk_at "rd"
    refine ⟨b, _, rfl, kp4.bag, by omega, by omega, fun j H6 j0 j1 kp6 => ?_⟩
    obtain ⟨j, rfl⟩ := ni_nat j0
    have hj : j ≤ w.length := by omega
    replace hw := kp6.lst kp4.bag hw
    replace kp4 := kp4.trans kp6
    clear kp6 j0 j1
    refine k1 _ _ ?_
    clear k1
    refine seqI fun K1 k1 => ?_
    walk_at "rd"
    obtain ⟨t1, t2⟩ := fits13 (L := w.take j ++ ([""] : List Str) ++ w.drop j) (fun x hx => by
      rw [List.mem_append, List.mem_append, List.mem_singleton] at hx
      rcases hx with (hx | rfl) | hx
      · exact plain13 wp x (List.mem_of_mem_take hx)
      · exact (by decide)
      · exact plain13 wp x (List.mem_of_mem_drop hx)) (by rw [List.length_append, List.length_append, List.length_take, List.length_drop, List.length_singleton]; omega)
    refine ⟨_, hw, fun a1 n1 => ?_⟩
    rw [cut_hi]
    have sA := same_new (o := .lst ((w.take j).map V.str)) n1
    have h7 : (upd H6 a1 (.lst ((w.take j).map V.str))) a1 = some (.lst ((w.take j).map V.str)) := upd_same
    generalize upd H6 a1 (.lst ((w.take j).map V.str)) = H7 at sA h7
    refine ⟨by decide, fun a2 n2 => ?_⟩
    replace sA := sA.trans (same_new (o := .lst [.str ""]) n2)
    replace h7 := same_new (o := .lst [.str ""]) n2 _ _ h7
    generalize upd H7 a2 (.lst [.str ""]) = H8 at sA h7
    refine ⟨_, h7, Nat.le_trans (show _ ≤ 100000 by rw [List.length_map, List.length_take]; omega) (by decide), fun a3 n3 => ?_⟩
    replace sA := sA.trans (same_new (o := .lst ((w.take j).map V.str ++ [.str ""])) n3)
    have h9 : (upd H8 a3 (.lst ((w.take j).map V.str ++ [.str ""]))) a3 = some (.lst ((w.take j).map V.str ++ [.str ""])) := upd_same
    generalize upd H8 a3 (.lst ((w.take j).map V.str ++ [.str ""])) = H9 at sA h9
    refine ⟨_, sA _ _ hw, fun a4 n4 => ?_⟩
    rw [cut_lo]
    replace sA := sA.trans (same_new (o := .lst ((w.drop j).map V.str)) n4)
    replace h9 := same_new (o := .lst ((w.drop j).map V.str)) n4 _ _ h9
    generalize upd H9 a4 (.lst ((w.drop j).map V.str)) = H10 at sA h9
    refine ⟨_, h9, Nat.le_trans (show _ ≤ 100000 by rw [List.length_append, List.length_map, List.length_map, List.length_take, List.length_drop, List.length_singleton]; omega) (by decide), fun a5 n5 => ⟨w.take j ++ ([""] : List Str) ++ w.drop j, by rw [List.map_append, List.map_append]; rfl, t1, ask_bad (p := j + 1) (by omega) t2 (by omega) (ref_empty hf hj) fun H11 s11 => ?_⟩⟩
    replace sA := (sA.trans (same_new n5)).trans s11
    replace hw := sA _ _ hw
    replace kp4 := kp4.then sA
    clear sA s11 n5 n4 n3 n2 n1 h7 h9 t1 t2
    clear hj
    refine k1 _ _ ?_
    clear k1
    refine seqI fun K1 k1 => ?_
    walk_at "rd"
    refine ⟨b, _, rfl, kp4.bag, by omega, by omega, fun j2 H12 j0 j1 kp6 => ?_⟩
    obtain ⟨j2, rfl⟩ := ni_nat j0
    have hj2 : j2 < w.length := by omega
    replace hw := kp6.lst kp4.bag hw
    replace kp4 := kp4.trans kp6
    clear kp6 j0 j1 hmore lw
    refine k1 _ _ ?_
    clear k1
    clear j
    refine seqI fun K1 k1 => ?_
    walk_at "rd"
    refine ⟨by decide, fun pc npc => ?_⟩
    have kp5 := kp4.then (same_new (o := .lst (ms oddL)) npc)
    have hw2 := same_new (o := .lst (ms oddL)) npc _ _ hw
    refine ⟨b, pc, ms oddL, rfl, kp5.bag, upd_same, by decide, by decide, fun v H6 hv kp6 => ?_⟩
    obtain ⟨odd, hodd, rfl⟩ := List.mem_map.mp hv
    replace hw := kp6.lst kp5.bag hw2
    replace kp4 := kp5.trans kp6
    clear hv hw2 kp6 kp5 npc
    have lo := odd13 odd hodd
    obtain ⟨j, rfl⟩ : ∃ j, j2 = j := ⟨_, rfl⟩
    refine k1 _ _ ?_
    clear k1
    refine seqI fun K1 k1 => ?_
    walk_at "rd"
    obtain ⟨t1, t2⟩ := fits13 (L := w.take j2 ++ ([odd] : List Str) ++ w.drop (j2 + 1)) (fun x hx => by
      rw [List.mem_append, List.mem_append, List.mem_singleton] at hx
      rcases hx with (hx | rfl) | hx
      · exact plain13 wp x (List.mem_of_mem_take hx)
      · exact lo
      · exact plain13 wp x (List.mem_of_mem_drop hx)) (by rw [List.length_append, List.length_append, List.length_take, List.length_drop, List.length_singleton]; omega)
    refine ⟨_, hw, fun a1 n1 => ?_⟩
    rw [cut_hi]
    have sA := same_new (o := .lst ((w.take j2).map V.str)) n1
    have h7 : (upd H6 a1 (.lst ((w.take j2).map V.str))) a1 = some (.lst ((w.take j2).map V.str)) := upd_same
    generalize upd H6 a1 (.lst ((w.take j2).map V.str)) = H7 at sA h7
    refine ⟨by decide, fun a2 n2 => ?_⟩
    replace sA := sA.trans (same_new (o := .lst [.str odd]) n2)
    replace h7 := same_new (o := .lst [.str odd]) n2 _ _ h7
    generalize upd H7 a2 (.lst [.str odd]) = H8 at sA h7
    refine ⟨_, h7, Nat.le_trans (show _ ≤ 100000 by rw [List.length_map, List.length_take]; omega) (by decide), fun a3 n3 => ?_⟩
    replace sA := sA.trans (same_new (o := .lst ((w.take j2).map V.str ++ [.str odd])) n3)
    have h9 : (upd H8 a3 (.lst ((w.take j2).map V.str ++ [.str odd]))) a3 = some (.lst ((w.take j2).map V.str ++ [.str odd])) := upd_same
    generalize upd H8 a3 (.lst ((w.take j2).map V.str ++ [.str odd])) = H9 at sA h9
    refine ⟨_, sA _ _ hw, fun a4 n4 => ?_⟩
    rw [show ((j2 : Nat) : Int) + 1 = ((j2 + 1 : Nat) : Int) by omega]
    rw [cut_lo]
    replace sA := sA.trans (same_new (o := .lst ((w.drop (j2 + 1)).map V.str)) n4)
    replace h9 := same_new (o := .lst ((w.drop (j2 + 1)).map V.str)) n4 _ _ h9
    generalize upd H9 a4 (.lst ((w.drop (j2 + 1)).map V.str)) = H10 at sA h9
    refine ⟨_, h9, Nat.le_trans (show _ ≤ 100000 by rw [List.length_append, List.length_map, List.length_map, List.length_take, List.length_drop, List.length_singleton]; omega) (by decide), fun a5 n5 => ⟨w.take j2 ++ ([odd] : List Str) ++ w.drop (j2 + 1), by rw [List.map_append, List.map_append]; rfl, t1, ask_bad (p := j2 + 1) (by omega) t2 (by omega) (ref_odd hf hj2 hodd) fun H11 s11 => ?_⟩⟩
    replace sA := (sA.trans (same_new n5)).trans s11
    replace hw := sA _ _ hw
    replace kp4 := kp4.then sA
    clear sA s11 n5 n4 n3 n2 n1 h7 h9 t1 t2
    refine k1 _ _ ?_
    clear k1
    refine seqI fun K1 k1 => ?_
    walk_at "rd"
    refine ⟨by decide, fun pc npc => ?_⟩
    have kp5 := kp4.then (same_new (o := .lst (ms headsB)) npc)
    refine ⟨b, pc, ms headsB, rfl, kp5.bag, upd_same, by decide, by decide, fun v H12 hv kp6 => ?_⟩
    obtain ⟨gb, hgb, rfl⟩ := List.mem_map.mp hv
    replace kp4 := kp5.trans kp6
    clear hv kp6 kp5 npc hw
    obtain ⟨g, hg, rfl, lg⟩ := headsB_ok gb hgb
    refine ⟨_, rfl, Nat.le_trans (show _ ≤ 100000 by omega) (by decide), ask_bad (p := 1) rfl (by rw [la]; omega) (by omega) (ref_head hf hg) fun H13 s13 => ?_⟩
    replace kp4 := kp4.then s13
    clear s13 hg lg hgb lo hodd
    refine k1 _ _ ?_
    clear k1
    refine seqI fun K1 k1 => ?_
    walk_at "rd"
    refine ⟨by decide, fun pc npc => ?_⟩
    have kp5 := kp4.then (same_new (o := .lst (ms startL)) npc)
    refine ⟨b, pc, ms startL, rfl, kp5.bag, upd_same, by decide, by decide, fun v H14 hv kp6 => ?_⟩
    obtain ⟨o2, ho2, rfl⟩ := List.mem_map.mp hv
    replace kp4 := kp5.trans kp6
    clear hv kp6 kp5 npc
    refine k1 _ _ ?_
    clear k1
    walk_at "rd"
    exact ask_badE (p := 1) rfl (start_len o2 ho2) (by omega) (ref_start ho2) fun H15 s15 => q H15 (kp4.then s15)
end
section
variable {P : Program} {w : World} {K : PySem.W.Frag} {mg : Str → Option Value} {base : Heap}
theorem ok_law {f0 : Addr} {fd : FuncData} (F : FunD K "law" "law" (defArgs s_law) (defBody s_law) (defScope s_law) [] [] f0 fd) (T : Tx P K mg) (TD : Td w K) (C__law_bag : Cal P w K mg base CX0 1 "_law_bag" ["_law_script"] (spBag K)) (C__law_reserved : Cal P w K mg base CX0 1 "_law_reserved" [] spResL) (C__law_choice : Cal P w K mg base CX0 2 "_law_choice" ["_law_bag_here", "_law_things"] spChoiceL) (C__law_pick : Cal P w K mg base CX0 1 "_law_pick" ["_law_bag_here", "_law_many"] spPick) (C__law_form : Cal P w K mg base CX0 11 "_law_form" ["_law_bag_here", "_law_due", "_law_levels"] (spFormN 6)) (C__law_form_text : Cal P w K mg base CX0 8 "_law_form_text" ["_law_form_here"] (spFormTextN 7)) (C_write_form : Cal P w K mg base CX0 3 "write_form" ["form"] spWriteForm) (C__law_read : CalG P w K mg base CX0 9 "_law_read" ["_law_text", "_law_due"] spReadL) (C__law_other : CalG P w K mg base CX0 2 "_law_other" ["_law_form_here"] spOtherL) (C__law_refused : CalG P w K mg base CX0 10 "_law_refused" ["_law_bag_here", "_law_text", "_law_due"] spRefL)  : FnG P w K mg base CX0 12 f0 fd ["_law_script"] (spLaw K) := by
  refine lawG F sc_law (fun vs H Q E h => ?_) (fun f cdv A outer s H vs Q E hG hr h => ?_)
  · first | (obtain ⟨rfl, _⟩ := h; rfl) | (obtain ⟨_, rfl, _⟩ := h; rfl) | (obtain ⟨_, _, rfl, _⟩ := h; rfl) | (obtain ⟨_, _, _, rfl, _⟩ := h; rfl) | (obtain ⟨_, _, _, _, rfl, _⟩ := h; rfl) | (obtain ⟨_, _, _, _, _, rfl, _⟩ := h; rfl) | (obtain ⟨_, _, _, _, _, _, rfl, _⟩ := h; rfl) | (obtain ⟨_, _, _, _, _, _, _, rfl, _⟩ := h; rfl) | (obtain ⟨_, _, _, _, _, _, _, _, rfl, _⟩ := h; rfl) | (obtain ⟨_, _, _, _, _, _, _, _, _, rfl, _⟩ := h; rfl) | (obtain ⟨_, _, _, _, _, _, _, _, _, _, rfl, _⟩ := h; rfl) | (obtain ⟨_, _, _, _, _, _, _, _, _, _, _, rfl, _⟩ := h; rfl) | (obtain ⟨_, _, _, _, _, _, _, _, _, _, _, _, rfl, _⟩ := h; rfl)
  · skip
    refine ⟨_, (pss_cons (ps_set (i := 1) sc_law.nd rfl (Or.inl rfl) (Fx.pe_cal C__law_bag (hr.mono (by decide)) pass0 (Fx.pa_c (pv 0) pa_nil)))
        (pss_cons (ps_if (pt_cmpR op_ne (Fx.pe_cB (Fx.call_reprK (K := K) rfl hG hr.units) T.b_repr (by decide +kernel) (Fx.pa_c (Fx.pe_cst T.c_RESERVED) pa_nil)) (Fx.pe_cB (Fx.call_reprK (K := K) rfl hG hr.units) T.b_repr (by decide +kernel) (Fx.pa_c (Fx.pe_cTy Fx.tup_L T.b_tuple (by decide +kernel) (Fx.pa_c (Fx.pe_cal0 C__law_reserved (hr.mono (by decide)) pass0) pa_nil)) pa_nil)) (nomark _)) (pss_one (ps_ret pe_bl)) pss_nil)
        (pss_cons (ps_for PassesOwn.never rfl (pi_range1 rfl T.b_range (Fx.pa_c pe_int pa_nil)) (pg_name (i := 2) sc_law.nd rfl (Or.inl rfl)) (pss_cons (ps_dput (hu_of hr) (pv 1) pe_str pe_int rfl)
        (pss_cons (ps_set (i := 3) sc_law.nd rfl (Or.inl rfl) (Fx.pe_cal C__law_choice (hr.mono (by decide)) pass0 (Fx.pa_c (pv 1) (Fx.pa_c (pe_lst (Fx.pa_c pe_str (Fx.pa_c pe_str pa_nil))) pa_nil))))
        (pss_cons (ps_set (i := 4) sc_law.nd rfl (Or.inl rfl) (pe_dget (hu_of hr) (pe_disp (pps_cons pe_str pe_str (pps_cons pe_str pe_str pps_nil)) (by rfl) (by rfl) (fun z => by cases z) (by decide)) (pv 3) (fun _ _ => rfl)))
        (pss_cons (ps_set (i := 5) sc_law.nd rfl (Or.inl rfl) (pe_dget (hu_of hr) (pe_disp (pps_cons pe_str pe_str (pps_cons pe_str pe_str pps_nil)) (by rfl) (by rfl) (fun z => by cases z) (by decide)) (pv 3) (fun _ _ => rfl)))
        (pss_cons (ps_set (i := 6) sc_law.nd rfl (Or.inl rfl) (Fx.pe_cal C__law_form (hr.mono (by decide)) pass0 (Fx.pa_c (pv 1) (Fx.pa_c (pv 3) (Fx.pa_c (pe_op op_add pe_int (Fx.pe_cal C__law_pick (hr.mono (by decide)) pass0 (Fx.pa_c (pv 1) (Fx.pa_c pe_int pa_nil)))) pa_nil)))))
        (pss_cons (ps_set (i := 7) sc_law.nd rfl (Or.inl rfl) (Fx.pe_cal C__law_form_text (hr.mono (by decide)) pass0 (Fx.pa_c (pv 6) pa_nil)))
        (pss_cons (ps_if (pt_cmpR op_ne (Fx.pe_cB (Fx.call_reprK (K := K) rfl hG hr.units) T.b_repr (by decide +kernel) (Fx.pa_c (Fx.pe_cal C_write_form (hr.mono (by decide)) pass0 (Fx.pa_c (pv 6) pa_nil)) pa_nil)) (Fx.pe_cB (Fx.call_reprK (K := K) rfl hG hr.units) T.b_repr (by decide +kernel) (Fx.pa_c (pv 7) pa_nil)) (nomark _)) (pss_one (ps_ret pe_bl)) pss_nil)
        (pss_cons (ps_for PassesOwn.never rfl (pi_range1 rfl T.b_range (Fx.pa_c pe_int pa_nil)) (pg_name (i := 8) sc_law.nd rfl (Or.inl rfl)) (pss_one (ps_if (pt_cmpR (Fx.ne_LL hr.units) (Fx.pe_calG C__law_read hG (hr.mono (by decide)) pass0 (Fx.pa_c (pv 7) (Fx.pa_c (pv 4) pa_nil))) (pe_lst (Fx.pa_c pe_str (Fx.pa_c (Fx.pe_cB (Fx.call_reprK (K := K) rfl hG hr.units) T.b_repr (by decide +kernel) (Fx.pa_c (pv 6) pa_nil)) pa_nil))) (nomark _)) (pss_one (ps_ret pe_bl)) pss_nil)))
        (pss_cons (ps_if (pt_cmpR (Fx.ne_LL hr.units) (Fx.pe_calG C__law_read hG (hr.mono (by decide)) pass0 (Fx.pa_c (pv 7) (Fx.pa_c (pv 5) pa_nil))) (Fx.pe_calG C__law_other hG (hr.mono (by decide)) pass0 (Fx.pa_c (pv 6) pa_nil)) (nomark _)) (pss_one (ps_ret pe_bl)) pss_nil)
        (pss_one (ps_if (pt_not (pt_val (Fx.pe_calG C__law_refused hG (hr.mono (by decide)) pass0 (Fx.pa_c (pv 1) (Fx.pa_c (pv 7) (Fx.pa_c (pv 4) pa_nil)))))) (pss_one (ps_ret pe_bl)) pss_nil))))))))))))
        (pss_one (ps_ret pe_bl))))), ?_⟩
    obtain ⟨a, ns, rfl, hS, hlen, q⟩ := h
    refine seqI fun K1 k1 => ?_
    walk_at "rd"
    refine ⟨a, ns, rfl, hS, hlen, fun b H1 s1 nb hB => ?_⟩
    refine k1 _ _ ?_
    clear k1
    refine seqI fun K1 k1 => ?_
    walk_at "rd"
    obtain ⟨ar, e1, hT⟩ := tupV_ok T.t_RS
    cases e1
    obtain ⟨d0, hd0⟩ : ∃ d0 : PyData, d0 = .tuple (resW.map PyData.str) := ⟨_, rfl⟩
    have sm0 : Sm d0 1 20000 := by rw [hd0]; exact sm_res
    refine ⟨d0, by rw [hd0]; exact .tup (hT H1) (DvAll.dp _ _ (dv_strs resW)), sm0.sh, sm0.nd, Nat.le_trans sm0.dep (by decide), Nat.le_trans sm0.len (by decide), rfl, fun p H2 s2 np hp => ⟨p, rfl, _, hp, fun pt npt => ⟨d0, by rw [hd0]; exact Dv.dp _ _ (.tup upd_same (dv_strs resW)), sm0.sh, sm0.nd, Nat.le_trans sm0.dep (by decide), Nat.le_trans sm0.len (by decide), ?_⟩⟩⟩
    rw [if_pos rfl]
    have B2 := (hB.same s2).same (same_new (o := .tup (ms resW)) npt)
    have hK : ∀ H3, Bag H3 b → K1 [some (V.ref a), some (V.ref b), none, none, none, none, none, none, none] H3 := by
      intro H3 B3
      refine k1 _ _ ?_
      clear k1
      refine seqI fun K1 k1 => ?_
      refine forI fun R0 hR => ?_
      walk_at "rd"
      refine ⟨by decide, by decide, hR _ _ (for_range (lo := 0) (n := 4) (fun i σ H' => ∃ v2 v3 v4 v5 v6 v7 v8, σ = [some (V.ref a), some (V.ref b), v2, v3, v4, v5, v6, v7, v8] ∧ Bag H' b) ⟨none, none, none, none, none, none, none, rfl, B3⟩ ?_ ?_)⟩
      · rintro i σ H4 hi ⟨v2, v3, v4, v5, v6, v7, v8, rfl, B4⟩
        clear hR k1 B3 B2 hS hT sm0 hd0 hp npt np
        obtain ⟨c, t, ns, a0, r, m, n, ro, hb, hro, hcc, ha⟩ := B4
        refine seqI fun K1 k1 => ?_
        walk_at "rd"
        refine ⟨_, DPut.k (k := Sum.inr "room") hb (Nat.lt_of_lt_of_le bagR_len (by decide)), ?_⟩
        rw [bagR_roomP]
        have R5 : BagR (upd H4 b (.dK (bagKV c a0 r m n ++ roomKV (some 24)))) b := ⟨c, ns, a0, r, m, n, some 24, upd_same, rfl, by rw [upd_ne (ne_of hcc hb (by intro z; cases z))]; exact hcc, ha⟩
        generalize upd H4 b (.dK (bagKV c a0 r m n ++ roomKV (some 24))) = H5 at R5
        clear hb hro hcc ha
        have B5 := R5.bag
        refine k1 _ _ ?_
        clear k1
        refine seqI fun K1 k1 => ?_
        walk_at "rd"
        refine ⟨by decide, fun pl npl => ?_⟩
        have kp6 := Kp.same B5 (same_new (o := .lst [V.str "N", V.str "X"]) npl)
        refine ⟨b, pl, _, rfl, kp6.bag, upd_same, (show 0 < 2 by decide), (show 2 ≤ 100000 by decide), fun v H6 hv kp7 => ?_⟩
        obtain ⟨due, rfl⟩ : ∃ due : Bool, v = .str (if due then ("N" : Str) else "X") := by
          simp only [List.mem_cons, List.not_mem_nil, or_false] at hv
          rcases hv with rfl | rfl
          · exact ⟨true, rfl⟩
          · exact ⟨false, rfl⟩
        replace kp6 := kp6.trans kp7
        clear hv kp7 npl
        refine k1 _ _ ?_
        clear k1
        refine seqI fun K1 k1 => ?_
        walk_at "rd"
        refine disp2 "N" "X" (.str "number") (.str "thing") (by decide) fun pd H7 s7 hd => ⟨pd, rfl, .str (dueW due), (by rw [show dueW due = if due then ("number" : Str) else "thing" from rfl, ← dueN]; exact DGet.k (k := Sum.inr _) hd), ?_⟩
        replace kp6 := kp6.then s7
        clear s7 hd
        refine k1 _ _ ?_
        clear k1
        refine seqI fun K1 k1 => ?_
        walk_at "rd"
        refine disp2 "N" "X" (.str "thing") (.str "number") (by decide) fun pd H8 s8 hd => ⟨pd, rfl, .str (dueW (!due)), (by rw [show dueW (!due) = if due then ("thing" : Str) else "number" by cases due <;> rfl, ← dueN]; exact DGet.k (k := Sum.inr _) hd), ?_⟩
        replace kp6 := kp6.then s8
        clear s8 hd pd
        refine k1 _ _ ?_
        clear k1
        refine seqI fun K1 k1 => ?_
        walk_at "rd"
        refine ⟨b, 6, rfl, kp6.bag, by decide, by decide, fun x H9 x0 x1 kp9 => ⟨x, rfl, ?_⟩⟩
        obtain ⟨x, rfl⟩ := ni_nat x0
        replace kp6 := kp6.trans kp9
        clear kp9 x0
        refine call_form (l := x + 1) (by omega) (by omega) (by omega) (kp6.room R5) fun v d w H10 kp10 dv hf => ?_
        replace kp6 := kp6.trans kp10
        clear kp10
        refine k1 _ _ ?_
        clear k1
        have hl : x + 1 ≤ 6 := by omega
        obtain ⟨wp, w1, w2⟩ := fm_size hf hl
        have w13 := plain_len wp
        refine seqI fun K1 k1 => ?_
        walk_at "rd"
        refine call_text (by omega) (by omega) dv hf fun H11 s11 => ?_
        replace dv := dv.same s11
        replace kp6 := kp6.then s11
        clear s11
        have smw := sm_text wp w2
        have smd := fm_sm hf hl
        refine k1 _ _ ?_
        clear k1
        refine seqI fun K1 k1 => ?_
        walk_at "rd"
        refine ⟨v, d, due, x + 1, w, rfl, dv, hf, hl, fun H12 s12 => ⟨.str (joinW w), Dv.dp _ _ (.str _), smw.sh, smw.nd, Nat.le_trans smw.dep (by decide), Nat.le_trans smw.len (by decide), .str (joinW w), Dv.dp _ _ (.str _), smw.sh, smw.nd, Nat.le_trans smw.dep (by decide), Nat.le_trans smw.len (by decide), ?_⟩⟩
        rw [if_pos rfl]
        replace dv := dv.same s12
        replace kp6 := kp6.then s12
        clear s12
        refine k1 _ _ ?_
        clear k1
        refine seqI fun K2 k2 => ?_
        refine forI fun R1 hR1 => ?_
        walk_at "rd"
        refine ⟨by decide, by decide, hR1 _ _ (for_range (lo := 0) (n := 2) (fun i2 σ H' => ∃ v8, σ = [some (V.ref a), some (V.ref b), some (V.int (0 + i)), some (V.str (if due = true then "N" else "X")), some (V.str (dueW due)), some (V.str (dueW !due)), some v, some (V.str (joinW w)), v8] ∧ Kp b H5 H' ∧ Dv H' v d) ⟨v8, rfl, kp6, dv⟩ ?_ ?_)⟩
        · rintro i2 σ H13 hi2 ⟨v9, rfl, kp13, dv13⟩
          clear hR1 k2
          walk_at "rd"
          refine ⟨joinW w, due, rfl, by omega, .inl ⟨d, ref_ok hf, smd, fun r H14 s14 nr hr => ⟨d, Dv.dp _ _ (dv13.same s14), smd.sh, smd.nd, Nat.le_trans smd.dep (by decide), Nat.le_trans smd.len (by decide), by decide, fun p np => ⟨r, rfl, _, same_new np _ _ hr, read_fl smd, read_fl smd, ?_⟩⟩⟩⟩
          rw [if_pos rfl]
          exact ⟨(kp13.then s14).then (same_new np), (dv13.same s14).same (same_new np)⟩
        · rintro σ H13 ⟨v9, rfl, kp13, dv13⟩
          clear hR1
          refine k2 _ _ ?_
          clear k2
          refine seqI fun K1 k1 => ?_
          walk_at "rd"
          have last : ∀ H14, Kp b H5 H14 → K1 [some (V.ref a), some (V.ref b), some (V.int (0 + i)), some (V.str (if due = true then "N" else "X")), some (V.str (dueW due)), some (V.str (dueW !due)), some v, some (V.str (joinW w)), v9] H14 := by
            intro H14 kp14
            refine k1 _ _ ?_
            clear k1
            walk_at "rd"
            exact ⟨b, due, x + 1, d, w, rfl, kp14.bag, hf, hl, fun H15 kp15 => ⟨_, rfl, Fx.ifF (by decide) (kp14.trans kp15).bag⟩⟩
          clear k1
          have bad : ∀ a0 v0, w = a0 :: v0 → begW (!due) a0 = none → ((∃ z, d = .tuple [.str (if due then "get" else "at"), .str z] ∧ z ∈ resW) ∨ ∃ h ds, d = .tuple (.str h :: ds) ∧ h ≠ "get" ∧ h ≠ "at") → spReadL [V.str (joinW w), V.str (dueW !due)] H13 (fun x H1 => spOtherL [v] H1 (fun y H2 => ∃ p, x = V.ref p ∧ ∃ x, y = V.ref x ∧ ∃ x_1, H2 p = some (HO.lst x_1) ∧ ∃ x_2, H2 x = some (HO.lst x_2) ∧ x_1.all isF = true ∧ x_2.all isF = true ∧ if x_1 = x_2 then K1 [some (V.ref a), some (V.ref b), some (V.int (0 + i)), some (V.str (if due = true then "N" else "X")), some (V.str (dueW due)), some (V.str (dueW !due)), some v, some (V.str (joinW w)), v9] H2 else Q (V.bl false) H2) E0) E0 := by
            intro a0 v0 ew hb hc
            refine ⟨joinW w, !due, rfl, by omega, .inr ⟨1, by rw [ew]; exact oth_err (by rw [← ew]; exact wp) hb, by decide, fun r H14 s14 nr hr => ⟨v, d, due, x + 1, w, rfl, dv13.same s14, hf, .inr ⟨hc, fun r2 H15 s15 nr2 hr2 => ⟨r, rfl, r2, rfl, _, s15 _ _ hr, _, hr2, bad_fl (by decide), bad_fl (by decide), ?_⟩⟩⟩⟩⟩
            rw [if_pos rfl]
            exact last H15 ((kp13.then s14).then s15)
          cases fm_other hf with
          | read z ew hz ed hb =>
            have pz := wp z (by rw [ew]; exact List.mem_cons_self)
            have smz : Sm (.tuple [.str (if due then ("at" : Str) else "get"), .str z]) 20 1000000 := (sm_tupS (.cons (sm_plain (by cases due <;> decide +kernel)) (.cons (sm_plain pz) .nil))).mono (by decide) (by simp)
            refine ⟨joinW w, !due, rfl, by omega, .inl ⟨_, by rw [ew]; exact oth_ok pz hb (by cases due <;> decide), smz, fun r H14 s14 nr hr => ⟨v, d, due, x + 1, w, rfl, dv13.same s14, hf, .inl ⟨z, ew, hz, ed, fun r2 H15 s15 nr2 hr2 => ⟨r, rfl, r2, rfl, _, s15 _ _ hr, _, hr2, read_fl smz, read_fl smz, ?_⟩⟩⟩⟩⟩
            rw [if_pos rfl]
            exact last H15 ((kp13.then s14).then s15)
          | kept z ew hz ed hb => exact bad z [] ew hb (.inl ⟨z, ed, hz⟩)
          | bad h r0 v0 a0 ed h1 h2 ew hb => exact bad a0 v0 ew hb (.inr ⟨h, r0, ed, h1, h2⟩)
      · rintro σ H4 ⟨v2, v3, v4, v5, v6, v7, v8, rfl, B4⟩
        refine k1 _ _ ?_
        clear k1
        walk_at "rd"
        exact q _
    exact hK _ B2
end
theorem facts {w : World} {K : PySem.W.Frag} {h : Heap} {mg : Str → Option Value} {f : Addr} (X : K.In h) (G : h.Ns mainGlobals mg) (hfa : mg ("law" : Str) = some (.ref f)) (cT : FxH.SaysT file fa fn fi fs ts w K) :
    ∃ fd : FuncData, (∀ (s : Shared) (v : Value), BindsTo s fd ⟨[v], []⟩ [("_law_script", v)]) ∧ ∀ base : Heap, K.In base → base.Ns mainGlobals mg → FnG PySem.Challenge.pw_fablemill_k39_forms_written w K mg base CX0 12 f fd ["_law_script"] (spLaw K) := by
  have c0 := cT.e
  have TD : Td w K := {
    NUMBER_FORMS := ktab_of (cT.tab 0),
    THING_FORMS := ktab_of (cT.tab 1),
    KNOWN_NAMES := ktab_of (cT.tab 2),
    RANGES := ktab_of (cT.tab 3) }
  have c := c0.x
  have T : Tx PySem.Challenge.pw_fablemill_k39_forms_written K mg := {
    b_ValueError := He.free_ok X G (c.fact 0),
    b_all := He.free_ok X G (c.fact 1),
    b_enumerate := He.free_ok X G (c.fact 2),
    b_int := He.free_ok X G (c.fact 3),
    b_isinstance := He.free_ok X G (c.fact 4),
    b_len := He.free_ok X G (c.fact 5),
    b_list := He.free_ok X G (c.fact 6),
    b_range := He.free_ok X G (c.fact 7),
    b_repr := He.free_ok X G (c.fact 8),
    b_str := He.free_ok X G (c.fact 9),
    b_tuple := He.free_ok X G (c.fact 10),
    b_super := He.free_ok X G (c.fact 11),
    c_DIGITS := cst_str (He.str_ok X G (c.fact 12)),
    c_KNOWN_NAMES := cst_ref (He.glo_ok X G (c.fact 13)),
    c_LETTERS := cst_str (He.str_ok X G (c.fact 14)),
    c_LONGEST_INTEGER := cst_int (He.int_ok X G (c.fact 15)),
    c_NUMBERS := cst_str (He.str_ok X G (c.fact 16)),
    c_NUMBER_FORMS := cst_ref (He.glo_ok X G (c.fact 17)),
    c_RANGES := cst_ref (He.glo_ok X G (c.fact 18)),
    c_RESERVED := cst_ref (He.glo_ok X G (c.fact 19)),
    c_THINGS := cst_str (He.str_ok X G (c.fact 20)),
    c_THING_FORMS := cst_ref (He.glo_ok X G (c.fact 21)),
    g_BadLine := He.glo_ok X G (c.fact 22),
    x_BadLine := FxH.InD.xc2 (P := PySem.Challenge.pw_fablemill_k39_forms_written) (d := d_BadLine) (g := "word") (c.ini 0).1 (c.ini 0).2 (FOk.mk' (by decide +kernel) (by decide +kernel) (by decide +kernel) (by decide +kernel)) (FOk.mk' (by decide +kernel) (by decide +kernel) (by decide +kernel) (by decide +kernel)) (by decide +kernel) (c.fact 23) rfl rfl rfl rfl (bd_BadLine) (by decide +kernel),
    e_BadLine := FxH.excB_ok (c.fact 24),
    g_BadPart := He.glo_ok X G (c.fact 25),
    g_FableError := He.glo_ok X G (c.fact 26),
    g_HalfForm := He.glo_ok X G (c.fact 27),
    g_LineWords := He.glo_ok X G (c.fact 28),
    cl_HalfForm := He.cls_ok (c.fact 29),
    cl_LineWords := He.cls_ok (c.fact 30),
    n_HalfForm_dues := He.noat_ok (c.fact 31),
    n_HalfForm_head := He.noat_ok (c.fact 32),
    n_HalfForm_read_parts_now := He.noat_ok (c.fact 33),
    n_LineWords_number := He.noat_ok (c.fact 34),
    n_LineWords_taken_many := He.noat_ok (c.fact 35),
    n_LineWords_words := He.noat_ok (c.fact 36),
    k_BL := of_decide_eq_true (c.fact 37),
    k_VE := of_decide_eq_true (c.fact 38),
    k_BP := of_decide_eq_true (c.fact 39),
    m_BL := of_decide_eq_true (c.fact 40),
    t_NF := c.fact 41,
    t_TF := c.fact 42,
    t_KN := c.fact 43,
    t_RG := c.fact 44,
    t_RS := c.fact 45 }
  obtain ⟨fd0, F0⟩ := c.def_ 0 (d := d_f_LineWords_MU_initU) rfl
  obtain ⟨fd1, F1⟩ := c.def_ 1 (d := d_f_LineWords_M_seen) rfl
  obtain ⟨fd2, F2⟩ := c.def_ 2 (d := d_f_LineWords_M_take) rfl
  obtain ⟨fd3, F3⟩ := c.def_ 3 (d := d_f_LineWords_M_shut) rfl
  obtain ⟨fd4, F4⟩ := c.def_ 4 (d := d_f_LineWords_M_take_integer) rfl
  obtain ⟨fd5, F5⟩ := c.def_ 5 (d := d_f_LineWords_M_take_params) rfl
  obtain ⟨fd6, F6⟩ := c.def_ 6 (d := d_f_LineWords_M_take_small) rfl
  obtain ⟨fd7, F7⟩ := c.def_ 7 (d := d_f_HalfForm_MU_initU) rfl
  obtain ⟨fd8, F8⟩ := c.def_ 8 (d := d_f_HalfForm_M_whole) rfl
  obtain ⟨fd9, F9⟩ := c.def_ 9 (d := d_f_kinds_of) rfl
  have S_kinds_of : Src K mg "kinds_of" s_kinds_of := ⟨_, fd9, He.glo_ok X G (c.fact 55), F9⟩
  obtain ⟨fd10, F10⟩ := c.def_ 10 (d := d_f_params_word) rfl
  have S_params_word : Src K mg "params_word" s_params_word := ⟨_, fd10, He.glo_ok X G (c.fact 56), F10⟩
  obtain ⟨fd11, F11⟩ := c.def_ 11 (d := d_f_form_parts) rfl
  have S_form_parts : Src K mg "form_parts" s_form_parts := ⟨_, fd11, He.glo_ok X G (c.fact 57), F11⟩
  obtain ⟨fd12, F12⟩ := c.def_ 12 (d := d_f_write_form) rfl
  have S_write_form : Src K mg "write_form" s_write_form := ⟨_, fd12, He.glo_ok X G (c.fact 58), F12⟩
  obtain ⟨fd13, F13⟩ := c.def_ 13 (d := d_f_is_name) rfl
  have S_is_name : Src K mg "is_name" s_is_name := ⟨_, fd13, He.glo_ok X G (c.fact 59), F13⟩
  obtain ⟨fd14, F14⟩ := c.def_ 14 (d := d_f_are_params) rfl
  have S_are_params : Src K mg "are_params" s_are_params := ⟨_, fd14, He.glo_ok X G (c.fact 60), F14⟩
  obtain ⟨fd15, F15⟩ := c.def_ 15 (d := d_f_is_small) rfl
  have S_is_small : Src K mg "is_small" s_is_small := ⟨_, fd15, He.glo_ok X G (c.fact 61), F15⟩
  obtain ⟨fd16, F16⟩ := c.def_ 16 (d := d_f_words_of) rfl
  have S_words_of : Src K mg "words_of" s_words_of := ⟨_, fd16, He.glo_ok X G (c.fact 62), F16⟩
  obtain ⟨fd17, F17⟩ := c.def_ 17 (d := d_f_is_decimal) rfl
  have S_is_decimal : Src K mg "is_decimal" s_is_decimal := ⟨_, fd17, He.glo_ok X G (c.fact 63), F17⟩
  obtain ⟨fd18, F18⟩ := c.def_ 18 (d := d_f_begun) rfl
  have S_begun : Src K mg "begun" s_begun := ⟨_, fd18, He.glo_ok X G (c.fact 64), F18⟩
  obtain ⟨fd19, F19⟩ := c.def_ 19 (d := d_f_take_form) rfl
  have S_take_form : Src K mg "take_form" s_take_form := ⟨_, fd19, He.glo_ok X G (c.fact 65), F19⟩
  obtain ⟨fd20, F20⟩ := c.def_ 20 (d := d_f_read_form) rfl
  have S_read_form : Src K mg "read_form" s_read_form := ⟨_, fd20, He.glo_ok X G (c.fact 66), F20⟩
  obtain ⟨fd21, F21⟩ := c.def_ 21 (d := d_f__law_bag) rfl
  have S__law_bag : Src K mg "_law_bag" s__law_bag := ⟨_, fd21, He.glo_ok X G (c.fact 67), F21⟩
  obtain ⟨fd22, F22⟩ := c.def_ 22 (d := d_f__law_pick) rfl
  have S__law_pick : Src K mg "_law_pick" s__law_pick := ⟨_, fd22, He.glo_ok X G (c.fact 68), F22⟩
  obtain ⟨fd23, F23⟩ := c.def_ 23 (d := d_f__law_choice) rfl
  have S__law_choice : Src K mg "_law_choice" s__law_choice := ⟨_, fd23, He.glo_ok X G (c.fact 69), F23⟩
  obtain ⟨fd24, F24⟩ := c.def_ 24 (d := d_f__law_one_in) rfl
  have S__law_one_in : Src K mg "_law_one_in" s__law_one_in := ⟨_, fd24, He.glo_ok X G (c.fact 70), F24⟩
  obtain ⟨fd25, F25⟩ := c.def_ 25 (d := d_f__law_shuffled) rfl
  have S__law_shuffled : Src K mg "_law_shuffled" s__law_shuffled := ⟨_, fd25, He.glo_ok X G (c.fact 71), F25⟩
  obtain ⟨fd26, F26⟩ := c.def_ 26 (d := d_f__law_letters) rfl
  have S__law_letters : Src K mg "_law_letters" s__law_letters := ⟨_, fd26, He.glo_ok X G (c.fact 72), F26⟩
  obtain ⟨fd27, F27⟩ := c.def_ 27 (d := d_f__law_reserved) rfl
  have S__law_reserved : Src K mg "_law_reserved" s__law_reserved := ⟨_, fd27, He.glo_ok X G (c.fact 73), F27⟩
  obtain ⟨fd28, F28⟩ := c.def_ 28 (d := d_f__law_kinds) rfl
  have S__law_kinds : Src K mg "_law_kinds" s__law_kinds := ⟨_, fd28, He.glo_ok X G (c.fact 74), F28⟩
  obtain ⟨fd29, F29⟩ := c.def_ 29 (d := d_f__law_known) rfl
  have S__law_known : Src K mg "_law_known" s__law_known := ⟨_, fd29, He.glo_ok X G (c.fact 75), F29⟩
  obtain ⟨fd30, F30⟩ := c.def_ 30 (d := d_f__law_ranges) rfl
  have S__law_ranges : Src K mg "_law_ranges" s__law_ranges := ⟨_, fd30, He.glo_ok X G (c.fact 76), F30⟩
  obtain ⟨fd31, F31⟩ := c.def_ 31 (d := d_f__law_name) rfl
  have S__law_name : Src K mg "_law_name" s__law_name := ⟨_, fd31, He.glo_ok X G (c.fact 77), F31⟩
  obtain ⟨fd32, F32⟩ := c.def_ 32 (d := d_f__law_small) rfl
  have S__law_small : Src K mg "_law_small" s__law_small := ⟨_, fd32, He.glo_ok X G (c.fact 78), F32⟩
  obtain ⟨fd33, F33⟩ := c.def_ 33 (d := d_f__law_form) rfl
  have S__law_form : Src K mg "_law_form" s__law_form := ⟨_, fd33, He.glo_ok X G (c.fact 79), F33⟩
  obtain ⟨fd34, F34⟩ := c.def_ 34 (d := d_f__law_form_text) rfl
  have S__law_form_text : Src K mg "_law_form_text" s__law_form_text := ⟨_, fd34, He.glo_ok X G (c.fact 80), F34⟩
  obtain ⟨fd35, F35⟩ := c.def_ 35 (d := d_f__law_read) rfl
  have S__law_read : Src K mg "_law_read" s__law_read := ⟨_, fd35, He.glo_ok X G (c.fact 81), F35⟩
  obtain ⟨fd36, F36⟩ := c.def_ 36 (d := d_f__law_bad) rfl
  have S__law_bad : Src K mg "_law_bad" s__law_bad := ⟨_, fd36, He.glo_ok X G (c.fact 82), F36⟩
  obtain ⟨fd37, F37⟩ := c.def_ 37 (d := d_f__law_other) rfl
  have S__law_other : Src K mg "_law_other" s__law_other := ⟨_, fd37, He.glo_ok X G (c.fact 83), F37⟩
  obtain ⟨fd38, F38⟩ := c.def_ 38 (d := d_f__law_refused) rfl
  have S__law_refused : Src K mg "_law_refused" s__law_refused := ⟨_, fd38, He.glo_ok X G (c.fact 84), F38⟩
  obtain ⟨fd, F⟩ := c.def_ 39 (d := d_f_law) rfl
  have e := hfa.symm.trans (He.glo_ok X G (c.fact 85 (f := (He.Fa.glo "law").ok) rfl))
  cases e
  have b := FunD.bindsA (ps := ["_law_script"]) F fun _ _ _ _ _ _ us hl => match us, hl with | [_], _ => rfl
  refine ⟨fd, fun s v => b s [v] rfl, fun base hK hG => ?_⟩
  have C_words_of : Cal PySem.Challenge.pw_fablemill_k39_forms_written w K mg base CX0 1 "words_of" ["line"] spWordsOf := ok_words_of S_words_of T TD 
  have C_LineWords_MU_initU : CalI PySem.Challenge.pw_fablemill_k39_forms_written w K mg base CX0 2 (He.ga K "LineWords") ["self", "number", "line"] (spLWI K) := ok_LineWords_MU_initU F0 (He.mkr_ok (c.fact 46)) T TD C_words_of
  have C_LineWords_M_seen : CalM PySem.Challenge.pw_fablemill_k39_forms_written w K mg base CX0 1 (He.ga K "LineWords") "seen" ["self"] (spSeen K) := ok_LineWords_M_seen F1 (He.meth_ok (c.fact 47)) T TD 
  have C_LineWords_M_take : CalM PySem.Challenge.pw_fablemill_k39_forms_written w K mg base (L2.CX PySem.Challenge.pw_fablemill_k39_forms_written w) 3 (He.ga K "LineWords") "take" ["self", "good"] (spTake K) := ok_LineWords_M_take F2 (He.meth_ok (c.fact 48)) T TD 
  have C_LineWords_M_shut : CalM PySem.Challenge.pw_fablemill_k39_forms_written w K mg base (L2.CX PySem.Challenge.pw_fablemill_k39_forms_written w) 3 (He.ga K "LineWords") "shut" ["self"] (spShut K) := ok_LineWords_M_shut F3 (He.meth_ok (c.fact 49)) T TD 
  have C_is_decimal : Cal PySem.Challenge.pw_fablemill_k39_forms_written w K mg base CX0 1 "is_decimal" ["word"] spIsDec := ok_is_decimal S_is_decimal T TD 
  have C_LineWords_M_take_integer : CalM PySem.Challenge.pw_fablemill_k39_forms_written w K mg base (L2.CX PySem.Challenge.pw_fablemill_k39_forms_written w) 4 (He.ga K "LineWords") "take_integer" ["self", "low", "high"] (spTakeI K) := ok_LineWords_M_take_integer F4 (He.meth_ok (c.fact 50)) T TD C_LineWords_M_seen C_is_decimal C_LineWords_M_take
  have C_are_params : Cal PySem.Challenge.pw_fablemill_k39_forms_written w K mg base CX0 1 "are_params" ["thing"] spAreParams := ok_are_params S_are_params T TD 
  have C_LineWords_M_take_params : CalM PySem.Challenge.pw_fablemill_k39_forms_written w K mg base (L2.CX PySem.Challenge.pw_fablemill_k39_forms_written w) 4 (He.ga K "LineWords") "take_params" ["self"] (spTakeP K) := ok_LineWords_M_take_params F5 (He.meth_ok (c.fact 51)) T TD C_LineWords_M_seen C_are_params C_LineWords_M_take
  have C_is_name : Cal PySem.Challenge.pw_fablemill_k39_forms_written w K mg base CX0 1 "is_name" ["thing"] spIsName := ok_is_name S_is_name T TD 
  have C_is_small : Cal PySem.Challenge.pw_fablemill_k39_forms_written w K mg base CX0 2 "is_small" ["kind", "thing"] spIsSmall := ok_is_small S_is_small T TD C_is_name
  have C_LineWords_M_take_small : CalM PySem.Challenge.pw_fablemill_k39_forms_written w K mg base (L2.CX PySem.Challenge.pw_fablemill_k39_forms_written w) 5 (He.ga K "LineWords") "take_small" ["self", "kind"] (spTakeS K) := ok_LineWords_M_take_small F6 (He.meth_ok (c.fact 52)) T TD C_LineWords_M_seen C_LineWords_M_take_integer C_LineWords_M_take_params C_is_small C_LineWords_M_take
  have C_HalfForm_MU_initU : CalI PySem.Challenge.pw_fablemill_k39_forms_written w K mg base CX0 1 (He.ga K "HalfForm") ["self", "head", "dues"] (spHFI K) := ok_HalfForm_MU_initU F7 (He.mkr_ok (c.fact 53)) T TD 
  have C_HalfForm_M_whole : CalM PySem.Challenge.pw_fablemill_k39_forms_written w K mg base CX0 1 (He.ga K "HalfForm") "whole" ["self"] (spWhole K) := ok_HalfForm_M_whole F8 (He.meth_ok (c.fact 54)) T TD 
  have C_kinds_of : Cal PySem.Challenge.pw_fablemill_k39_forms_written w K mg base CX0 1 "kinds_of" ["word", "due"] (spKinds K) := ok_kinds_of S_kinds_of T TD 
  have C_params_word : Cal PySem.Challenge.pw_fablemill_k39_forms_written w K mg base CX0 1 "params_word" ["params"] spParamsWord := ok_params_word S_params_word T TD 
  have C_form_parts : Cal PySem.Challenge.pw_fablemill_k39_forms_written w K mg base CX0 2 "form_parts" ["form"] spFormParts := ok_form_parts S_form_parts T TD C_params_word
  have C_write_form : Cal PySem.Challenge.pw_fablemill_k39_forms_written w K mg base CX0 3 "write_form" ["form"] spWriteForm := ok_write_form S_write_form T TD C_form_parts
  have C_begun : Cal PySem.Challenge.pw_fablemill_k39_forms_written w K mg base (L2.CX PySem.Challenge.pw_fablemill_k39_forms_written w) 6 "begun" ["line", "due"] (spBegun K) := ok_begun S_begun T TD C_LineWords_M_seen C_is_decimal C_HalfForm_MU_initU C_LineWords_M_take_small C_kinds_of C_LineWords_M_take
  have C_take_form : Cal PySem.Challenge.pw_fablemill_k39_forms_written w K mg base (L2.CX PySem.Challenge.pw_fablemill_k39_forms_written w) 7 "take_form" ["line", "due"] (spTakeForm K) := ok_take_form S_take_form T TD C_begun C_LineWords_M_take_small C_HalfForm_M_whole
  have C_read_form : Cal PySem.Challenge.pw_fablemill_k39_forms_written w K mg base (L2.CX PySem.Challenge.pw_fablemill_k39_forms_written w) 8 "read_form" ["text", "due"] (spReadForm K) := ok_read_form S_read_form T TD C_LineWords_MU_initU C_take_form C_LineWords_M_shut
  have C__law_bag : Cal PySem.Challenge.pw_fablemill_k39_forms_written w K mg base CX0 1 "_law_bag" ["_law_script"] (spBag K) := ok__law_bag S__law_bag T TD 
  have C__law_pick : Cal PySem.Challenge.pw_fablemill_k39_forms_written w K mg base CX0 1 "_law_pick" ["_law_bag_here", "_law_many"] spPick := ok__law_pick S__law_pick T TD 
  have C__law_choice : Cal PySem.Challenge.pw_fablemill_k39_forms_written w K mg base CX0 2 "_law_choice" ["_law_bag_here", "_law_things"] spChoiceL := ok__law_choice S__law_choice T TD C__law_pick
  have C__law_one_in : Cal PySem.Challenge.pw_fablemill_k39_forms_written w K mg base CX0 2 "_law_one_in" ["_law_bag_here", "_law_many"] spOneIn := ok__law_one_in S__law_one_in T TD C__law_pick
  have C__law_shuffled : Cal PySem.Challenge.pw_fablemill_k39_forms_written w K mg base CX0 2 "_law_shuffled" ["_law_bag_here", "_law_things"] spShuf := ok__law_shuffled S__law_shuffled T TD C__law_pick
  have C__law_letters : Cal PySem.Challenge.pw_fablemill_k39_forms_written w K mg base CX0 2 "_law_letters" ["_law_bag_here", "_law_many"] spLetters := ok__law_letters S__law_letters T TD C__law_pick
  have C__law_reserved : Cal PySem.Challenge.pw_fablemill_k39_forms_written w K mg base CX0 1 "_law_reserved" [] spResL := ok__law_reserved S__law_reserved T TD 
  have C__law_kinds : Cal PySem.Challenge.pw_fablemill_k39_forms_written w K mg base CX0 1 "_law_kinds" ["_law_due"] spKindsL := ok__law_kinds S__law_kinds T TD 
  have C__law_known : Cal PySem.Challenge.pw_fablemill_k39_forms_written w K mg base CX0 1 "_law_known" ["_law_kind"] spKnownL := ok__law_known S__law_known T TD 
  have C__law_ranges : Cal PySem.Challenge.pw_fablemill_k39_forms_written w K mg base CX0 1 "_law_ranges" [] (spRowsD rngRows) := ok__law_ranges S__law_ranges T TD 
  have C__law_name : Cal PySem.Challenge.pw_fablemill_k39_forms_written w K mg base CX0 3 "_law_name" ["_law_bag_here"] spNameL := ok__law_name S__law_name T TD C__law_pick C__law_letters C__law_reserved
  have C__law_small : Cal PySem.Challenge.pw_fablemill_k39_forms_written w K mg base CX0 4 "_law_small" ["_law_bag_here", "_law_kind"] spSmallL := ok__law_small S__law_small T TD C__law_ranges C__law_pick C__law_choice C__law_known C__law_one_in C__law_name
  have C__law_form : Cal PySem.Challenge.pw_fablemill_k39_forms_written w K mg base CX0 11 "_law_form" ["_law_bag_here", "_law_due", "_law_levels"] (spFormN 6) := ok__law_form S__law_form T TD C__law_pick C__law_kinds C__law_choice C__law_shuffled C__law_name C__law_small
  have C__law_form_text : Cal PySem.Challenge.pw_fablemill_k39_forms_written w K mg base CX0 8 "_law_form_text" ["_law_form_here"] (spFormTextN 7) := ok__law_form_text S__law_form_text T TD 
  have C__law_read : CalG PySem.Challenge.pw_fablemill_k39_forms_written w K mg base CX0 9 "_law_read" ["_law_text", "_law_due"] spReadL := ok__law_read S__law_read T TD C_read_form
  have C__law_bad : CalG PySem.Challenge.pw_fablemill_k39_forms_written w K mg base CX0 1 "_law_bad" ["_law_place"] spBadL := ok__law_bad S__law_bad T TD 
  have C__law_other : CalG PySem.Challenge.pw_fablemill_k39_forms_written w K mg base CX0 2 "_law_other" ["_law_form_here"] spOtherL := ok__law_other S__law_other T TD C__law_reserved C__law_bad
  have C__law_refused : CalG PySem.Challenge.pw_fablemill_k39_forms_written w K mg base CX0 10 "_law_refused" ["_law_bag_here", "_law_text", "_law_due"] spRefL := ok__law_refused S__law_refused T TD C__law_choice C__law_read C__law_bad C__law_pick
  exact ok_law F T TD C__law_bag C__law_reserved C__law_choice C__law_pick C__law_form C__law_form_text C_write_form C__law_read C__law_other C__law_refused
end K39
open PySem PySem.W PySem.Calls PyProof.Rows
theorem PySem.Challenge.cw_fablemill_k39_forms_written_holds : PySem.Challenge.rw_fablemill_k39_forms_written.Holds := by
  w_on; o_law
  refine HandSHeadRun.head_any (r := OpenLaw.row PySem.Challenge.rw_fablemill_k39_forms_written) (q := view (OpenLaw.row PySem.Challenge.rw_fablemill_k39_forms_written).prog [62]) (H := K39.hk) (ob := K39.ob) (M := 20000) (loose := K39.loose) (d := HandSHeadRun.topDef (OpenLaw.row PySem.Challenge.rw_fablemill_k39_forms_written).prog 62) (kwd := []) K39.ob_eq
    (by kernel_rfl) (fun s => by kernel_rfl) K39.run (by kernel_rfl) (by kernel_rfl) (by kernel_rfl) (by rfl) (by first | assumption | decide +kernel) (by decide +kernel) ⟨rfl, rfl, rfl, rfl, rfl, by decide +kernel⟩ ?hw ?hc
  case hw => w_witness2
  case hc =>
    refine Fx.walk_ofG (l := PySem.Challenge.rw_fablemill_k39_forms_written) (n := 63) (k := 12) (x := "_law_script") rfl (by decide) (by kernel_rfl) ⟨rfl, by decide, by decide⟩ ?F
    intro w mg fa h Y G hmg0
    obtain ⟨K, KX, c⟩ := Y
    have hmg : mg ("law" : PySem.Str) = some (.ref fa) := by
      have e : (HandSHeadRun.topDef (OpenLaw.row PySem.Challenge.rw_fablemill_k39_forms_written).prog 62).name = ("law" : PySem.Str) := by kernel_rfl
      rw [← e]
      exact hmg0
    obtain ⟨fd, hb, hF⟩ := K39.facts (w := w) KX G hmg c
    exact ⟨K, fd, (K39.spLaw K), KX, hb, fun H a ns hl hS => ⟨a, ns, rfl, hS, Nat.le_trans hl (by decide), fun _ => rfl⟩, hF⟩
