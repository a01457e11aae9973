import PyProof.Rows.All
import Wide.All
import OpenK.AllK
import Wide.FinOn
import KE.KStateDown
import KE.KExcSuper
import Lean
import HandS.ForMost
import HandS.ForExc
import HandS.ExcInit
import HandS.ExcSuper
import HandS.ExcField
import HandS.ExcIs
import HandS.IsInst
import HandS.Defaults
import HandS.Replace
import HandS.ReplaceLit
import HandS.ReplaceDef
import HandS.Head0
import HandS.Head1
import HandS.Head2
import HandS.HeadEnd
import HandS.HeadHook1
import HandS.HeadHook2
import HandS.SetFor
import HandS.SortInts
import HandS.Wide
import HandS.WideBits
import HandS.ReplaceList
import HandS.IterVal
import KE.SortData
import KE.DataCmp
import HandS.Walk
import KE.GoesMore
import HandS.More
import HandS.TupAny
import HandS.Ends
import PyProof.ReprRoads
import PyProof.CallFns
import HandS.TupLe
import HandS.StrMore
import PyProof.Rows.StrPadFill
import PyProof.Rows.StrPadWhole
import KE.KIsAll
import HandS.OwnEq
import HandS.HotCalls
import HandS.Codes
import KE.KOwnIter
import PyProof.InstEq
import HandS.OwnIter
import PyProof.Rows.SortShellAny
import HandS.Strs
import HandS.Conv
import HandS.Style
import HandS.Set
import HandS.SetBool
import HandS.SetKeys
import KE.KCallOwn
import HandS.Steps
import HandS.Text
import PyProof.EqKinds
import HandS.TryMany
import HandS.ClsMeth
import HandS.HeadNt
import HandS.SortOrd
import HandS.ExcOwn
import PySem.Challenge.RW_fablemill_k16_bad_trees
set_option Elab.async false
set_option linter.all false
set_option maxRecDepth 100000
set_option maxHeartbeats 4000000
/-! Own errors of the shape: class C(FableError): def __init__(self, f): super().__init__('..'); self.f = f -/
namespace Fx
open PySem PySem.W PySem.Calls PyProof.Rows PySem.HandSPX
/-- the text of such an __init__ -/
def xA (f : Str) (p1 p2 : Pos) : Arguments := { posonlyargs := [], args := [{ arg := "self", annotation := none, pos := p1 }, { arg := f, annotation := none, pos := p2 }], vararg := none, kwonlyargs := [], kw_defaults := [], kwarg := none, defaults := [] }
def xB (f m : Str) (q1 q2 q3 q4 q5 q6 q7 q8 q9 q10 : Pos) : List Stmt :=
  [.Expr (.Call (.Attribute (.Call (.Name "super" q1) [] [] q2) "__init__" q3) [.Constant (.str m) 0 q4] [] q5) q6,
   .Assign [.Attribute (.Name "self" q7) f q8] (.Name f q9) q10]
def xS (f : Str) : Scope := { kind := .function, names := [(PySem.Str.ofString "self", .local), (f, .local), (PySem.Str.ofString "__class__", .free), (PySem.Str.ofString "super", .globalImplicit)], isGenerator := false, isCoroutine := false, more := [] }
/-- a field's name that does not clash -/
structure FOk (f : Str) : Prop where
  ns : f ≠ "self"
  nc : f ≠ "__class__"
  nu : f ≠ "super"
  nd : (f == ("__debug__" : Str)) = false
theorem FOk.mk' {f : Str} (h1 : decide (f ≠ "self") = true) (h2 : decide (f ≠ "__class__") = true) (h3 : decide (f ≠ "super") = true) (h4 : (f == ("__debug__" : Str)) = false) : FOk f :=
  ⟨of_decide_eq_true h1, of_decide_eq_true h2, of_decide_eq_true h3, h4⟩
/-- what the written part says of the class at C, its name x, its field f -/
structure XC (K : Frag) (P : Program) (x f : Str) (C : Addr) : Prop where
  fo : FOk f
  cls : ∃ nm q N bs bm sn sub ab col dd k0 k1 k2 k3 k5, K.lookup C = some (excClassObj nm q C N bs bm true sn sub ab col dd k0 k1 k2 k3 k5 "ValueError.__new__") ∧ refsVE bm = true ∧ alongIn K "__init__" bm = some (some (.builtin "ValueError.__init__"))
  sa : findIn K (.ref C) "__setattr__" = some (some (.builtin "object.__setattr__"))
  ga : findIn K (.ref C) "__getattribute__" = some (some (.builtin "BaseException.__getattribute__"))
  gg : findIn K (.ref C) "__getattr__" = some none
  noF : findIn K (.ref C) f = some none
  kC : keepIn K (.ref C) = true
  exC : subIn K (.ref C) (.type "BaseException") = some true
  veC : subIn K (.ref C) (.type "ValueError") = some true
  tyC : typeIn K (.ref C) = some (.type "type")
  hdC : hasDictIn K C = true
  op : nsIn K cStatics "thirdparty.any" = some none
  init : ∃ (fI : Addr), findIn K (.ref C) "__init__" = some (some (.ref fI)) ∧ typeIn K (.ref fI) = some (.type "function") ∧
    ∃ (qual m : Str) (oc : Value) (od : Option Addr) (kV doc pm : Value) (an : Option Addr) (cda cc : Addr) (ct : Value) (osl : Array (Option Value)) (p1 p2 q1 q2 q3 q4 q5 q6 q7 q8 q9 q10 : Pos)
      (ccl : Value) (cdd : Option Addr) (vs : Array Value) (ccs : Array (Option Value)) (tf : Tok) (cl : Value) (cld : Option Addr) (csl : Array (Option Value)),
      K.lookup fI = some ⟨oc, od, .func (ksFn "__init__" qual (xA f p1 p2) (xB f m q1 q2 q3 q4 q5 q6 q7 q8 q9 q10) (xS f) .none kV doc pm an (.ref cda) ct cc), osl⟩ ∧ codeIn K (.ref cda) qual = true ∧
      K.lookup cda = some ⟨ccl, cdd, .fields vs, ccs⟩ ∧ vs[2]? = some (.str (P.main.file : Str) tf) ∧ K.lookup cc = some ⟨cl, cld, .cell (some (.ref C)), csl⟩ ∧ (q3.endLine == q5.line) = true
  bd : ∀ (fd : FuncData) (p1 p2 : Pos), fd.params = xA f p1 p2 → fd.defaults = .none → ∀ (u1 u2 : Value), bindArgs fd ⟨[u1, u2], []⟩ = pure [(("self" : Str), u1), (f, u2)]
  top : (P.main.scope.names.lookup ("super" : Str)).isSome = false
section
variable {f : Str} (F : FOk f)
include F
theorem look_self : (xS f).names.lookup ("self" : Str) = some .local := by simp [xS, List.lookup]
theorem look_f : (xS f).names.lookup f = some .local := by
  have h1 : (f == PySem.Str.ofString "self") = false := by simpa using F.ns
  simp [xS, List.lookup, h1]
theorem look_cls : (xS f).names.lookup ("__class__" : Str) = some .free := by
  have h1 : (("__class__" : Str) == f) = false := by simpa using (Ne.symm F.nc)
  have h2 : (("__class__" : Str) == PySem.Str.ofString "self") = false := by decide
  simp [xS, List.lookup, h1, h2]
theorem look_sup : (xS f).names.lookup ("super" : Str) = some .globalImplicit := by
  have h1 : (("super" : Str) == f) = false := by simpa using (Ne.symm F.nu)
  have h2 : (("super" : Str) == PySem.Str.ofString "self") = false := by decide
  have h3 : (("super" : Str) == PySem.Str.ofString "__class__") = false := by decide
  simp [xS, List.lookup, h1, h2, h3]
end
section
variable {prog : Program} {w : World} {A : Around} {E : Value → Shared → Prop} {h : Heap} {g : Array GenState} {d : Drawn} {t : Nat} {os : OsState}
variable {nm q : Str} {C N : Addr} {bs bm : List Value} {hdct : Bool} {sn : List Str} {sub : List Value} {ab : Bool} {col : Option Bool} {dd : Option Addr} {k0 k1 k2 k3 k5 : Option Value}
theorem boot_super : bootBuiltins ("super" : Str) = some (.type "super") := by first | boot_by_name | kernel_rfl
/-- super().__init__(..) called -/
theorem call_mw {u e t0 : Addr} {rest : List Value} {Q : Value → Shared → Prop}
    (hC : h.get? C = some (excClassObj nm q C N bs bm hdct sn sub ab col dd k0 k1 k2 k3 k5 "ValueError.__new__")) (he : h.get? e = some (excO C t0)) (hu : h.get? u = some (kxs_mw "ValueError.__init__" e)) (hrest : rest.length ≤ sizeLine)
    (hq : ∀ h' t1, (∀ b o, b ≠ e → h.get? b = some o → h'.get? b = some o) → h'.get? e = some (excO C t1) → Q .none ⟨h', g, d, t, os⟩) :
    wpAny (model prog w) A (call (.ref u) rest) Q E ⟨h, g, d, t, os⟩ := by
  refine wpAny_call (codeAny_of_tree ?_)
  show wpAny _ A.in1 (callAny (.ref u) ⟨rest, []⟩) _ _ _
  simp only [callAny]
  refine wpAny_bind (wpAny_load hu ?_)
  simp only [kxs_mw, show (Value.type "method-wrapper" == Value.type "method" || Value.type "method-wrapper" == Value.type "builtin_function_or_method" || Value.type "method-wrapper" == Value.type "method-wrapper") = true by decide, if_true]
  refine KFB.if_so (by decide) ?_
  refine wpAny_bind (ESX.check_bound F.excBase_ValueError hC he rfl ?_)
  refine wpAny_bind (wpAny_pure (wpAny_pure ?_))
  refine ⟨Code.quiet_builtin _ (by decide +kernel), codeAny_builtin F.excBase_ValueError.initEntry ?_⟩
  rw [Around.under_plainId F.excBase_ValueError.init.plain _]
  wp_walk
  refine hq _ h.objs.size (fun b o hb ho => ?_) ?_
  · rw [Heap.get?_update_other _ _ (Ne.symm hb)]
    exact Heap.get?_push_of_some _ ho
  · rw [Heap.get?_update_self _ (Heap.get?_push_of_some _ he) rfl]
    rfl
end
theorem he_sup {env : Env} {m : Str} {q1 q2 q3 q4 q5 : Pos} (hp : (q3.endLine == q5.line) = true) :
    eval (.Call (.Attribute (.Call (.Name "super" q1) [] [] q2) "__init__" q3) [.Constant (.str m) 0 q4] [] q5) env = (do
      let ov ← attributeBase (.Call (.Name "super" q1) [] [] q2) "__init__" env (eval (.Call (.Name "super" q1) [] [] q2) env)
      standAt q3.atName
      let (f, first) ← holding [ov] (getMethod ov "__init__" (do return (← importBound (.Call (.Name "super" q1) [] [] q2) env).getD true))
      callWith q5 f first (backTo q5 (starEach [.Constant (.str m) 0 q4] env)) []) := by
  rw [arm_eval_Call]
  unfold methodCall methodCallPos
  simp only [hp, Bool.or_true, if_true]
  rfl
/-- what __init__ leaves of a fresh exception at x -/
structure InitEnd (h h' : Heap) (x C dx t1 : Addr) (f : Str) (v : Value) : Prop where
  keep : ∀ b o, b ≠ x → h.get? b = some o → h'.get? b = some o
  obj : h'.get? x = some { cls := .ref C, dict := some dx, data := .fields #[.ref t1, .none, .none, .none, .bool false, .none] }
  dbig : h.objs.size ≤ dx
  dne : dx ≠ x
  ns : h'.Ns1 dx (fun y => if y = f then some v else none)
/-- a made exception -/
structure OwnMade (h h' : Heap) (e C d : Addr) (f : Str) (v : Value) : Prop where
  keep : ∀ b o, h.get? b = some o → h'.get? b = some o
  new : h.objs.size ≤ e
  obj : ∃ oe vs, h'.get? e = some oe ∧ oe.cls = .ref C ∧ oe.dict = some d ∧ oe.data = .fields vs ∧ vs[1]? = some .none
  dbig : h.objs.size ≤ d
  dne : d ≠ e
  ns : h'.Ns1 d (fun y => if y = f then some v else none)
section
variable {prog : Program} {w : World} {A : Around} {E : Value → Shared → Prop} {R : Result → Shared → Prop} {s : Shared} {K : Frag} {mg mb : Str → Option Value} {x0 f : Str} {C : Addr}
theorem one_size (v : Value) : [v].length ≤ sizeLine := by
  rw [sizeLine_eq]
  exact (by decide : 1 ≤ 16777216)
theorem fx_init (T : XC K prog x0 f C) {fI : Addr} (hfI : findIn K (.ref C) "__init__" = some (some (.ref fI))) {x t0 : Addr} {v : Value} (X : K.In s.heap) (G : s.heap.Ns mainGlobals mg) (hsu : mg "super" = none) (B : s.heap.Ns builtinsNs mb) (hsb : mb "super" = bootBuiltins "super")
    (hlim : s.heap.NoLimit) (hx : s.heap.get? x = some (excO C t0)) (hnx : K.lookup x = none) (hroom : A.depth < recursionLimit)
    (hq : ∀ h' tk dx t1, InitEnd s.heap h' x C dx t1 f v → R (.ok (.ret .none)) { s with heap := h', toks := tk }) :
    codeAny (model prog w) A (.call (.ref fI) ⟨[.ref x, v], []⟩) R s := by
  obtain ⟨fI', e1, htI, qual, m, oc, od, kV, doc, pm, an, cda, cc, ct, osl, p1, p2, q1, q2, q3, q4, q5, q6, q7, q8, q9, q10, ccl, cdd, vs, ccs, tf, cl, cld, csl, ho, hcd, hcode, hvs, hcell, hps⟩ := T.init
  rw [hfI] at e1
  cases e1
  obtain ⟨nm, q, N, bs, bm, sn, sub, ab, col, dd, k0, k1, k2, k3, k5, hC, hbm, hal⟩ := T.cls
  have hcl : clsIn K C = some { name := nm, bases := bs, mro := .ref C :: bm, ns := N, qualname := q, hasDict := true, slotNames := sn, subclasses := sub, abstract := ab, collection := col, hasDel := false } := by unfold clsIn; rw [hC] <;> rfl
  refine ks_codeAny_call_defAt (fd := ksFn "__init__" qual (xA f p1 p2) (xB f m q1 q2 q3 q4 q5 q6 q7 q8 q9 q10) (xS f) .none kV doc pm an (.ref cda) ct cc) (body := xB f m q1 q2 q3 q4 q5 q6 q7 q8 q9 q10) (binds := [("self", .ref x), (f, v)]) hroom (X _ _ ho) rfl hlim (codeRec_of X hcd) rfl
    (BindsTo.of_eq (T.bd _ p1 p2 rfl rfl _ _)) ?_ ?_ (fun h₁ hns k => ?_)
  · intro y hy
    simp only [xS, List.mem_cons, List.not_mem_nil, or_false] at hy
    rcases hy with rfl | rfl | rfl | rfl <;> simp
  · intro y hy
    simp only [List.mem_cons, List.not_mem_nil, or_false] at hy
    rcases hy with rfl | rfl
    · exact look_self T.fo
    · exact look_f T.fo
  · have X1 : K.In h₁ := X.keeps k
    have hx1 := k _ _ hx
    have hC1 := X1 _ _ hC
    refine ks_wpAt_execs_cons (ks_wpAt_Expr_any (ks_wpAt_MethodCall ?_ (he_sup hps)))
    refine ks_wpAt_super_base (look_sup T.fo) (look_cls T.fo) (by decide) rfl (X1 _ _ ho) rfl rfl rfl (X1 _ _ hcode) rfl hvs (by simp) T.top ?_
    refine ks_loadName_global rfl (look_sup T.fo) (loadGlobal_builtin (G.keeps k) hsu (B.keeps k) (hsb.trans boot_super) ⟨rfl, ?_⟩)
    refine wpAny_loadName_free rfl (look_cls T.fo) rfl ⟨_, X1 _ _ hcell, rfl⟩ ?_
    refine wpAny_loadName_local rfl (look_self T.fo) hns (v := .ref x) ?_ ?_
    · have h1 : (("self" : Str) == f) = false := by simpa using (Ne.symm T.fo.ns)
      simp [List.lookup, h1]
    refine ks_wpAny_isType_cls hC1 rfl ⟨rfl, ?_⟩
    have hsub : mroIn K C (.ref C) = some true := by
      unfold mroIn
      rw [hcl]
      simp
    refine ks_wpAny_call_super hC1 rfl hx1 rfl (fun c e => by cases e) (looks_mroIn X1 hsub) (fun h2 hso k2 => ?_)
    have X2 : K.In h2 := X1.keeps k2
    have hx2 := k2 _ _ hx1
    have hxC : x ≠ C := fun e => by
      rw [e, hC1] at hx1
      cases hx1
    have I2 : InstAt h2 x (excO C t0) C none := ⟨hx2, rfl, rfl, trivial⟩
    refine kxs_getMethod kxs_ValueError hso (looks_opaque X2 T.op) (l₀ := .ref C :: bm) ?_ (ESX.drop_own C bm) X2 hal (I2.type.andThen (looks_subIn X2 T.veC)) hxC (by decide) ?_
    · exact fun A Q E s k q => wpAny_bind ((looks_clsIn X2 hcl) A _ E s k (wpAny_pure q))
    have kp : ∀ b o, h2.get? b = some o → (h2.push (kxs_mw "ValueError.__init__" x)).get? b = some o := fun b o e => Heap.get?_push_of_some _ e
    have hu : (h2.push (kxs_mw "ValueError.__init__" x)).get? h2.objs.size = some (kxs_mw "ValueError.__init__" x) := Heap.get?_push_at rfl rfl
    refine kxs_callWith (i := "ValueError.__init__") (x := x) rfl (evalArgs_plain (spliced_cons (Constant_str (k := 0) (pos := q4) (spliced_nil ⟨hu, ?_⟩))))
    refine call_mw (kp _ _ (X2 _ _ hC)) (kp _ _ hx2) hu (one_size _) (fun h3 t1 k3 hx3 => ?_)
    have kk : ∀ b o, b ≠ x → h₁.get? b = some o → h3.get? b = some o := fun b o hb e => k3 b o hb (kp _ _ (k2 _ _ e))
    have X3 : K.In h3 := fun a o e => kk a o (fun z => by rw [z, hnx] at e; cases e) (X1 a o e)
    have nL : s.heap.objs.size ≠ x := Nat.ne_of_gt (Heap.lt_size hx)
    have hns3 : h3.Ns s.heap.objs.size (fun y => [(("self" : Str), Value.ref x), (f, v)].reverse.lookup y) := by
      obtain ⟨oL, es, ep, hL, r⟩ := hns
      exact ⟨oL, es, ep, kk _ _ nL hL, r⟩
    have hfs : (f == ("self" : Str)) = false := by simpa using T.fo.ns
    have hsf : (("self" : Str) == f) = false := by simpa using (Ne.symm T.fo.ns)
    show PySem.wpAt _ _ _ (execs _ _) _ _ _
    refine ks_wpAt_execs_cons (ks_wpAt_Assign_Attr (PySem.wpAt_of_wpAny ?_))
    refine wpAny_Name (wpAny_loadName_local rfl (look_f T.fo) hns3 (v := v) (by simp [List.lookup]) ?_) T.fo.nd
    refine wpAny_Name (wpAny_loadName_local rfl (look_self T.fo) hns3 (v := .ref x) (by simp [List.lookup, hsf]) ?_) (by decide)
    refine set_plain X3 (ox := excO C t1) (od := none) ⟨hx3, rfl, rfl, trivial⟩ T.sa ?_
    refine exc_osa X3 hx3 hcl (show refsVE (.ref C :: bm) = true from hbm) rfl T.noF (fun h4 tk4 dx k4 dn dne hx4 hn4 => ?_)
    show PySem.wpAt _ _ _ (execs _ _) _ _ _
    refine PySem.wpAt_of_wpAny (wpAny_execs_nil (hq h4 tk4 dx t1 ⟨fun b o hb e => k4 b o hb (kk b o hb (k b o e)), hx4, ?_, dne, hn4⟩))
    exact Nat.le_of_lt (Nat.lt_of_lt_of_le (show s.heap.objs.size < h3.objs.size from hns3.lt) dn)
theorem fx_made (T : XC K prog x0 f C) {v : Value} (X : K.In s.heap) (G : s.heap.Ns mainGlobals mg) (hsu : mg "super" = none) (B : s.heap.Ns builtinsNs mb) (hsb : mb "super" = bootBuiltins "super") (hlim : s.heap.NoLimit) (hroom : A.depth + 1 < recursionLimit)
    (hq : ∀ h' tk e d, OwnMade s.heap h' e C d f v → R (.ok (.ret (.ref e))) { s with heap := h', toks := tk }) :
    codeAny (model prog w) A (.call (.ref C) ⟨[v], []⟩) R s := by
  obtain ⟨fI, hfI, htI, _⟩ := T.init
  obtain ⟨nm, q, N, bs, bm, sn, sub, ab, col, dd, k0, k1, k2, k3, k5, hC, hbm, hal⟩ := T.cls
  obtain ⟨hp, g, dr, tk, os⟩ := s
  have k : ∀ b o, hp.get? b = some o → ((hp.push (kdv_tup [v])).push (excO C hp.objs.size)).get? b = some o := fun b o e => Heap.get?_push_of_some _ (Heap.get?_push_of_some _ e)
  have hget : ((hp.push (kdv_tup [v])).push (excO C hp.objs.size)).get? (hp.objs.size + 1) = some (excO C hp.objs.size) := by heap_get
  have hnx : K.lookup (hp.objs.size + 1) = none := by
    cases e : K.lookup (hp.objs.size + 1) with
    | none => rfl
    | some o =>
      have z : hp.get? (hp.objs.size + 1) = some o := X _ _ e
      exact absurd (Nat.lt_of_succ_lt (Heap.lt_size z)) (Nat.lt_irrefl _)
  refine call_own F.excBase_ValueError (fun X => refsVE_contains X bm hbm) (X _ _ hC) (looks_findIn X hfI) (fun self => bind_fn X self htI) (one_size v) ?_
  refine fx_init (s := ⟨(hp.push (kdv_tup [v])).push (excO C hp.objs.size), g, dr, tk, os⟩) T hfI (X.keeps k) (G.keeps k) hsu (B.keeps k) hsb (hlim.keeps k) hget hnx ?_ fun h' tk' dx t1 ⟨k', hx, dn, dne, hns⟩ => ?_
  · show A.depth + 1 < recursionLimit
    exact hroom
  · have old : ∀ b o, hp.get? b = some o → h'.get? b = some o := fun b o e => k' b o (Nat.ne_of_lt (Nat.lt_succ_of_lt (Heap.lt_size e))) (k b o e)
    have z : hp.objs.size + 1 + 1 ≤ dx := by
      first
        | (simpa only [Heap.size_push] using dn)
        | exact dn
        | (have q := dn; rw [Heap.size_push, Heap.size_push] at q; exact q)
    exact ⟨rfl, hq h' tk' (hp.objs.size + 1) dx ⟨old, Nat.le_succ _, ⟨_, _, hx, rfl, rfl, rfl, rfl⟩, Nat.le_trans (Nat.le_trans (Nat.le_succ _) (Nat.le_succ _)) z, dne, hns⟩⟩
end
end Fx
namespace Fx
open PySem PySem.Spec PyProof.Rows L2
theorem relO_fx {f : Str} {v : V} {v' : Value} (r : RelV v v') (y : Str) : RelO (List.lookup y [(f, v)]) (if y = f then some v' else none) := by
  by_cases hw : y = f
  · subst hw
    rw [if_pos rfl]
    have q : List.lookup y [(y, v)] = some v := by simp [List.lookup]
    rw [q]
    exact r
  · rw [if_neg hw]
    have qw : (y == f) = false := by simpa using hw
    have q2 : List.lookup y [(f, v)] = none := by simp [List.lookup, qw]
    rw [q2]
    trivial
section
variable {X : Cx} {C : Addr} {x0 f : Str}
/-- C(e) -/
def tMkFx (C : Addr) (f : Str) (ta : TA) : L2.St → Hp → XK → Prop := fun σ H Q => ta σ H fun vs H1 => ∃ v, vs = [v] ∧ ∀ d, H1 d = none → Q (.ref C) (some d) (upd H1 d (.xd [(f, v)]))
theorem pmk_fx {a : Expr} {ta : TA} {p pos : Pos} {k : Nat} (T : XC X.K X.prog x0 f C) (gC : X.mg x0 = some (.ref C)) (hsu : X.mg "super" = none) (hr : Room k X.A) (ha : PA X [a] ta) (hg : Gl X x0 := by rfl) (hdb : (x0 == ("__debug__" : Str)) = false := by decide)
    (he : starEach (a :: []) X.env = (false, eval a X.env) :: starEach [] X.env := by rfl) (hpl : (backTo pos (starEach [] X.env)).any (·.1) = false := by rfl) :
    PMk X (.Call (.Name x0 p) [a] [] pos) (tMkFx C f ta) := by
  intro pins s σ H Q I h
  refine wpAny_Call_Name_kw (ld_glob I hg gC ?_ hdb)
  refine PySem.W.callWith_K (h₀ := X.base) I.ok.mod.kin T.kC (thn (ha.run pos pins s σ H _ I h) fun us s1 hh => ?_) he hpl
  obtain ⟨vs, H1, I1, r1, v, ev, q1⟩ := hh
  subst ev
  refine ⟨I1.kIn, ?_⟩
  cases r1 with
  | cons rv rn =>
    rename_i v' us'
    cases rn
    show wpAny _ _ (call (.ref C) [v']) _ _ _
    have hlim := I1.nolimit
    obtain ⟨mb, hb1, hb2⟩ := I1.mod.blt
    have G := I1.mod.glob.keeps I1.bk
    have B := hb1.keeps I1.bk
    obtain ⟨hp, g, dr, tk, os⟩ := s1
    refine wpAny_call (fx_made T I1.kIn G hsu B (hb2 _ (by decide)) hlim (by have := hr.dp; omega) fun h' tk' e d M => ?_)
    show MkP X pins σ Q (.ref e) ⟨h', g, dr, tk', os⟩
    obtain ⟨oe, fv, hoe, hc, hd, hdat, h1⟩ := M.obj
    have hns := M.ns
    obtain ⟨G', g1, g2⟩ := restrict h' fun b => decide (b ≠ e)
    have gk : ∀ b, b ≠ e → G'.get? b = h'.get? b := fun b hb => g1 b (decide_eq_true hb)
    have ge : G'.get? e = none := g2 e (by simp)
    have old : ∀ b o, hp.get? b = some o → G'.get? b = some o := fun b o q => (gk b (Nat.ne_of_lt (Nat.lt_of_lt_of_le (Heap.lt_size q) M.new))).trans (M.keep b o q)
    have ob : ObjOk X.prog X.w (upd H1 d (.xd [(f, v)])) G' d (.xd [(f, v)]) :=
      ⟨_, hns.at (fun o q => (gk d M.dne).trans q), fun y => relO_fx rv y⟩
    have J : Inv X pins σ (upd H1 d (.xd [(f, v)])) ⟨G', g, dr, tk', os⟩ := I1.laid (t' := tk') old M.dbig ob
    refine ⟨e, oe, fv, ⟨G', g, dr, tk', os⟩, _, .ref C, some d, rfl, J, fun b o q => ?_, ge, hoe, ⟨hc, hd⟩, hdat, h1, ?_, rfl, I1.bare, raises_own T.exC T.tyC, q1 d (I1.hok.fresh M.dbig)⟩
    · by_cases hb : b = e
      · have q' : G'.get? b = some o := q
        rw [hb, ge] at q'; cases q'
      · exact (gk b hb).symm.trans q
    · rw [upd_ne (Ne.symm M.dne)]
      exact I1.hok.fresh M.new
/-- raise C(e) -/
def tRaiseFx (C : Addr) (f : Str) (W : WX) (ta : TA) : TS := fun _ σ H => tMkFx C f ta σ H fun cls d H' => W cls d σ H'
theorem ps_raiseFx {a : Expr} {ta : TA} {W : WX} {p pos pos2 : Pos} {k : Nat} (hc : X.calm = true) (T : XC X.K X.prog x0 f C) (gC : X.mg x0 = some (.ref C)) (hsu : X.mg "super" = none) (hr : Room k X.A) (tk : Takes X W) (ha : PA X [a] ta) (hg : Gl X x0 := by rfl) (hdb : (x0 == ("__debug__" : Str)) = false := by decide)
    (he : starEach (a :: []) X.env = (false, eval a X.env) :: starEach [] X.env := by rfl) (hpl : (backTo pos (starEach [] X.env)).any (·.1) = false := by rfl) :
    PS X (.Raise (some (.Call (.Name x0 p) [a] [] pos)) none pos2) (tRaiseFx C f W ta) := ps_raise hc tk (pmk_fx T gC hsu hr ha hg hdb he hpl)
/-- e.f, e the exception that the suite holds -/
theorem XC.xf (T : XC X.K X.prog x0 f C) : XfC X.K C := ⟨T.ga, T.gg, T.exC, T.hdC⟩
end
end Fx
namespace PySem.W
open PySem PySem.Spec PySem.Calls PyProof.Rows
section
variable {prog : Program} {w : World} {A : Around} {E : Value → Shared → Prop} {s : Shared} {K : Frag} {x D : Addr} {ox : Obj} {od : Option Obj}
theorem fx_findObj {C : Addr} {name : Str} {a g : Value} (hc : (clsIn K C).isSome = true) (ha : findIn K (.ref C) name = some (some a)) (hg : specialIn K a "__get__" = some (some g)) (ht : takesIn K a = some true) : findObj K C od name = some (.bind g a) := by
  obtain ⟨cd, hc⟩ := Option.isSome_iff_exists.mp hc
  unfold findObj
  rw [hc, Option.bind_some, ha, Option.bind_some]
  simp [hg, ht]
theorem fx_class {Q : Option Value → Shared → Prop} (hga : findIn K (.ref D) "__getattribute__" = some (some (.builtin "BaseException.__getattribute__"))) (hgt : findIn K (.ref D) "__getattr__" = some none) (hsub : subIn K (.ref D) (.type "BaseException") = some true)
    (hdct : hasDictIn K D = true) (ha : findIn K (.ref D) "__class__" = some (some (.builtin "object.__class__")))
    (hn : specialIn K (.builtin "object.__class__") "__get__" = some (some (.builtin "getset_descriptor.__get__"))) (htk : takesIn K (.builtin "object.__class__") = some true) (hm : mroIn K D (.type "object") = some true)
    (X : K.In s.heap) (I : InstAt s.heap x ox D od) (h : Q (some (.ref D)) { s with toks := s.toks + 1 }) : wpAny (model prog w) A (getAttr? (.ref x) "__class__") Q E s := by
  have hf : findObj K D od "__class__" = some (.bind (.builtin "getset_descriptor.__get__") (.builtin "object.__class__")) := fx_findObj (by obtain ⟨cd, hc, _⟩ := any_some hdct; rw [hc]; rfl) ha hn htk
  obtain ⟨hp, g, d, t, os⟩ := s
  have L0 := I.type (M := model prog w)
  have L1 := looks_findIn (M := model prog w) X hga
  have L2 := looks_findIn (M := model prog w) X hgt
  have L3 := looks_find (M := model prog w) X I hf
  have sub : Looks (model prog w) hp (isInstance (.ref x) (.type "BaseException")) true := L0.andThen (looks_subIn X hsub)
  have hx0 : (false && onTheHeap (Value.builtin "BaseException.__getattribute__")) = false := rfl
  have hx2 : (Value.builtin "BaseException.__getattribute__" == Value.builtin "object.__getattribute__") = false := by decide +kernel
  have hx1 : (onTheHeap (Value.ref D) && Value.builtin "BaseException.__getattribute__" == Value.builtin "object.__getattribute__") = false := by rw [hx2]; rfl
  unfold getAttr? getAttrBy? getAttrBy
  refine wpAny_bind (wpAny_mkText (wpAny_bind (wpAny_attempt (wpAny_holding (wpAny_bind (L0.at (wpAny_bind (L1.at ?_))))))))
  show wpAny _ _ (if (onTheHeap (Value.ref D) && Value.builtin "BaseException.__getattribute__" == Value.builtin "object.__getattribute__") = true then _ else _) _ _ _
  rw [hx1, if_neg Bool.false_ne_true]
  unfold getAttrByItsOwn hookBefore
  refine wpAny_bind ?_
  rw [if_pos (show onTheHeap (Value.ref D) = true from rfl)]
  refine L2.at ?_
  refine wpAny_bind (wpAny_attempt (wpAny_holding ?_))
  unfold callGetattribute
  rw [hx0, if_neg Bool.false_ne_true]
  unfold boundAndCalled
  rw [PySem.F.excAttr_ValueError.ga.bind (.ref x)]
  refine wpAny_bind (wpAny_pure ?_)
  show wpAny _ _ (call (.builtin "BaseException.__getattribute__") [.ref x, .str "__class__" t]) _ _ _
  refine wpAny_call (codeAny_call_builtin PySem.F.excAttr_ValueError.ga.plain PySem.F.entry_bexc_ga ?_)
  refine @check_slot (model prog w) _ _ ⟨hp, g, d, t + 1, os⟩ "BaseException.__getattribute__" "BaseException" "__getattribute__" (.ref x) [.str "__class__" t] [] _ (by decide +kernel) (by decide +kernel) sub (PySem.F.args_bexc_ga (.ref x) (.str "__class__" t)) ?_
  unfold Builtin.«object.__getattribute__»
  refine wpAny_bind (wpAny_of_eq (a := ((Value.ref x : Value), [Value.str "__class__" t])) (by first | rfl | (simp only [slotArgs]; rfl)) ?_)
  refine wpAny_bind (wpAny_pure (wpAny_bind (L0.at (wpAny_bind (L3.at ?_)))))
  show wpAny _ _ (holding [Value.builtin "object.__class__"] (call (.builtin "getset_descriptor.__get__") [.builtin "object.__class__", .ref x, .ref D]) >>= ret) _ _ _
  refine wpAny_bind (wpAny_holding (wpAny_call (class_get (s := ⟨hp, g, d, t + 1, os⟩) (ox := ox) (od := od) X I hm ?_)))
  refine wpAny_pure ?_
  show wpAny _ _ (handedOut (.ref D)) _ _ _
  rw [handedOut_of (v := .ref D) rfl]
  first
    | exact wpAny_pure (wpAny_pure h)
    | exact wpAny_pure h
    | exact wpAny_pure (wpAny_bind (wpAny_pure (wpAny_pure h)))
theorem fx_kitx (hga : findIn K (.ref D) "__getattribute__" = some (some (.builtin "BaseException.__getattribute__"))) (hgt : findIn K (.ref D) "__getattr__" = some none) (hsub : subIn K (.ref D) (.type "BaseException") = some true) (hdct : hasDictIn K D = true) (ha : findIn K (.ref D) "__class__" = some (some (.builtin "object.__class__")))
    (hn : specialIn K (.builtin "object.__class__") "__get__" = some (some (.builtin "getset_descriptor.__get__"))) (htk : takesIn K (.builtin "object.__class__") = some true) (hm : mroIn K D (.type "object") = some true) :
    KitX K (.ref x) (.ref D) (fun h => ∃ od, InstAt h x ox D od) where
  ty := fun _ _ _ ⟨_, I⟩ => I.type
  it := fun _ _ X _ => by
    obtain ⟨cdD, hcD, _⟩ := any_some hdct
    unfold clsIn at hcD
    split at hcD
    · rename_i c' d' cd' sl' ho
      intro A' Q' E' s' k q
      unfold isType loadHead
      exact wpAny_bind (wpAny_loadPart (k _ _ (X _ _ ho)) (wpAny_pure q))
    · cases hcD
  ne := fun h tp dd its n sl X htp => by
    obtain ⟨cdD, hcD, _⟩ := any_some hdct
    refine Bool.eq_false_iff.mpr fun q => ?_
    have e : D = tp := Value.ref.inj (beq_iff_eq.mp q)
    subst e
    unfold clsIn at hcD
    split at hcD
    · rename_i c' d' cd' sl' ho
      have z := (X _ _ ho).symm.trans htp
      cases z
    · cases hcD
  ca := fun X ⟨_, I⟩ k => fx_class hga hgt hsub hdct ha hn htk hm X I k
end
end PySem.W
namespace Fx
open PySem PySem.Spec PyProof.Rows L2
/-- isinstance(e, c), e the exception that the suite holds, with its dict -/
theorem call_isX {X : Cx} {a D dd : Addr} {oe : Obj} {pn : List (Addr × Obj)} {fs : List (Str × V)} (C : ExcC X.K D) (hz : Zc (.ref D) (some dd) oe) (hf : ∃ vs, oe.data = .fields vs) :
    CallR (X.suite a ((a, oe) :: pn)) (.builtin "isinstance") (fun xs H Q => H dd = some (.xd fs) ∧ rIsE X.K D a xs H Q) := by
  intro pins s σ H xs us Q I r h
  obtain ⟨hdd, c, cv, b, rfl, hcv, e, q⟩ := h
  cases r with
  | cons rx rr =>
    cases rr with
    | cons rt rr =>
      cases rr
      cases rx
      have ec := hcv _ rt
      subst ec
      obtain ⟨hget, _⟩ := I.pin (a, oe) (List.mem_append.mpr (.inl List.mem_cons_self))
      obtain ⟨vs, hv⟩ := hf
      have hx : ObjOk X.prog X.w H s.heap dd (.xd fs) := I.hok dd _ hdd
      obtain ⟨mA, ⟨od, es, ep, ho, hrest⟩, hr⟩ := hx
      have J : PySem.W.InstAt s.heap a oe D (some od) := ⟨hget, hz.1, by unfold PySem.W.notCls; rw [hv] <;> rfl, by rw [hz.2]; exact ho⟩
      exact PySem.W.kia_one (PySem.W.fx_kitx C.hg C.hk C.hs C.hd C.ha C.hn C.ht C.hm) I.kIn ⟨_, J⟩ e (fun z => nomatch z) fun tk => ⟨.bl b, H, I.kept (t' := tk) fun _ _ z => z, rfl, q⟩
end Fx
namespace Fx
open PySem PySem.Spec PyProof.Rows L2
def clsVal : V → Option Value
  | .ref C => some (.ref C)
  | .ty n => some (.type n)
  | _ => none
/-- isinstance(e, c) in an except suite, e the exception that it holds: its class cls, its dict d -/
def rIsY (K : PySem.W.Frag) (a : Addr) (cls : Value) (d : Option Addr) : List V → Hp → VK → Prop := fun xs H Q => ∃ c, xs = [.ref a, c] ∧ ∃ D, cls = .ref D ∧ ∃ dd, d = some dd ∧ (∃ fs, H dd = some (.xd fs)) ∧ ExcC K D ∧ ∃ cv, clsVal c = some cv ∧ ∃ b, PySem.W.kitOne K (.ref D) cv = some b ∧ Q (.bl b) H
theorem call_isY {X : Cx} {a : Addr} {oe : Obj} {cls : Value} {d : Option Addr} {pn : List (Addr × Obj)} (hz : Zc cls d oe) (hf : ∃ vs, oe.data = .fields vs) :
    CallR (X.suite a ((a, oe) :: pn)) (.builtin "isinstance") (rIsY X.K a cls d) := by
  intro pins s σ H xs us Q I r h
  obtain ⟨c, e1, D, e2, dd, e3, ⟨fs, hfs⟩, C, cv, hcv, b, hb, q⟩ := h
  subst e1 e2 e3
  refine call_isX (fs := fs) C hz hf pins s σ H _ us Q I r ⟨hfs, c, cv, b, rfl, fun u ru => ?_, hb, q⟩
  cases c with
  | ref C2 => cases hcv; exact ru
  | ty n => cases hcv; exact ru
  | _ => cases hcv
theorem XC.xfc {K : PySem.W.Frag} {P : Program} {x f : Str} {C : Addr} (T : XC K P x f C) : XfC K C := ⟨T.ga, T.gg, T.exC, T.hdC⟩
end Fx
/-! The head's facts: defs, errors' classes, any further facts as tests of the written part -/
namespace FxH
open PySem PySem.Spec PyProof.Rows L2 He
def asR (g : Addr → Option Obj) : Nat → List Addr
  | 0 => [mainGlobals, cStatics]
  | n + 1 => growD g (asR g n)
abbrev Fct := PySem.W.Frag → Bool
/-- an error's class: its name, its field, its __init__ -/
structure InD where
  x : Str
  f : Str
  qual : Str
  st : Stmt
abbrev FnX : Type := Option (Str × Str × Arguments × FuncBody × Scope × Addr × List Str × Value × Addr)
def fnXo (K : PySem.W.Frag) (x : Str) : FnX := match K.lookup (ma K (ga K x) "__init__") with
  | some ⟨_, _, .func fd, _⟩ => some (fd.name, fd.qualname, fd.params, fd.body, fd.scope, fd.globals, fd.closure.map (·.1), fd.defaults, fd.builtins)
  | _ => none
def InD.val (d : InD) : FnX := some ("__init__", d.qual, defArgs d.st, .stmts (defBody d.st), defScope d.st, mainGlobals, ["__class__"], .none, builtinsNs)
def clsB (K : PySem.W.Frag) (C : Addr) : Bool := match K.lookup C with
  | some ⟨.type "type", _, .cls cd, sl⟩ => (match cd.mro, sl.toList with
    | .ref C' :: bm, [_, _, _, _, some (.builtin n), _] => C' == C && (n == "ValueError.__new__" && (!cd.hasDel && (cd.hasDict && (PySem.HandSPX.refsVE bm && decide (PySem.W.alongIn K "__init__" bm = some (some (.builtin "ValueError.__init__")))))))
    | _, _ => false)
  | _ => false
theorem clsB_ok {K : PySem.W.Frag} {C : Addr} (q : clsB K C = true) : ∃ nm q N bs bm sn sub ab col dd k0 k1 k2 k3 k5, K.lookup C = some (excClassObj nm q C N bs bm true sn sub ab col dd k0 k1 k2 k3 k5 "ValueError.__new__") ∧ PySem.HandSPX.refsVE bm = true ∧ PySem.W.alongIn K "__init__" bm = some (some (.builtin "ValueError.__init__")) := by
  unfold clsB at q
  split at q
  · rename_i dd cd sl ho
    split at q
    · rename_i C' bm k0 k1 k2 k3 n k5 hm hs
      simp only [Bool.and_eq_true, beq_iff_eq, Bool.not_eq_true', decide_eq_true_eq] at q
      obtain ⟨rfl, rfl, hdel, hdct, ht, hal⟩ := q
      obtain ⟨nm, bs, mro, ns, qn, hd, sn, sub, ab, col, del⟩ := cd
      dsimp only at hm hdel hdct
      subst hm hdel hdct
      have hsl : sl = #[k0, k1, k2, k3, some (.builtin "ValueError.__new__"), k5] := by
        obtain ⟨l⟩ := sl
        simp only at hs
        rw [hs]
      subst hsl
      exact ⟨nm, qn, ns, bs, bm, sn, sub, ab, col, dd, k0, k1, k2, k3, k5, ho, ht, hal⟩
    · cases q
  · cases q
/-- the cell and the code of the __init__ -/
def iniB (K : PySem.W.Frag) (C fI : Addr) (qual file : Str) : Bool := match K.lookup fI with
  | some ⟨_, _, .func fd, _⟩ => (match fd.closure, fd.code with
    | [(_, cc)], .ref cda => PySem.W.codeIn K (.ref cda) qual && ((match K.lookup cda with
        | some ⟨_, _, .fields vs, _⟩ => (match (vs[2]? : Option Value) with
          | some (Value.str n _) => decide (n = file)
          | _ => false)
        | _ => false) && (match K.lookup cc with
        | some ⟨_, _, .cell (some (.ref D)), _⟩ => decide (D = C)
        | _ => false))
    | _, _ => false)
  | _ => false
def InD.ok (file : Str) (K : PySem.W.Frag) (d : InD) : Bool :=
  let C := ga K d.x
  let fI := ma K C "__init__"
  eqO (PySem.W.nsIn K mainGlobals d.x) (some (some (.ref C))) && (clsB K C && (eqO (PySem.W.findIn K (.ref C) "__setattr__") (some (some (.builtin "object.__setattr__"))) &&
  (eqO (PySem.W.findIn K (.ref C) "__getattribute__") (some (some (.builtin "BaseException.__getattribute__"))) && (eqO (PySem.W.findIn K (.ref C) "__getattr__") (some none) && (eqO (PySem.W.findIn K (.ref C) d.f) (some none) &&
  (PySem.W.keepIn K (.ref C) && (decide (PySem.W.subIn K (.ref C) (.type "BaseException") = some true) && (decide (PySem.W.subIn K (.ref C) (.type "ValueError") = some true) && (decide (PySem.W.typeIn K (.ref C) = some (.type "type")) &&
  (PySem.W.hasDictIn K C && (eqO (PySem.W.nsIn K cStatics "thirdparty.any") (some none) && (eqO (PySem.W.findIn K (.ref C) "__init__") (some (some (.ref fI))) && (decide (PySem.W.typeIn K (.ref fI) = some (.type "function")) && iniB K C fI d.qual file)))))))))))))
/-- what isinstance asks of an error's class -/
def excB (K : PySem.W.Frag) (x : Str) : Bool :=
  let C := ga K x
  eqO (PySem.W.findIn K (.ref C) "__getattribute__") (some (some (.builtin "BaseException.__getattribute__"))) && (eqO (PySem.W.findIn K (.ref C) "__getattr__") (some none) && (decide (PySem.W.subIn K (.ref C) (.type "BaseException") = some true) &&
  (PySem.W.hasDictIn K C && (eqO (PySem.W.findIn K (.ref C) "__class__") (some (some (.builtin "object.__class__"))) && (eqO (PySem.W.specialIn K (.builtin "object.__class__") "__get__") (some (some (.builtin "getset_descriptor.__get__"))) &&
  (decide (PySem.W.takesIn K (.builtin "object.__class__") = some true) && decide (PySem.W.mroIn K C (.type "object") = some true)))))))
theorem excB_ok {K : PySem.W.Frag} {x : Str} (h : excB K x = true) : ExcC K (ga K x) := by
  obtain ⟨h1, h⟩ := ba h
  obtain ⟨h2, h⟩ := ba h
  obtain ⟨h3, h⟩ := ba h
  obtain ⟨h4, h⟩ := ba h
  obtain ⟨h5, h⟩ := ba h
  obtain ⟨h6, h⟩ := ba h
  obtain ⟨h7, h8⟩ := ba h
  exact ⟨eqO_ok h1, eqO_ok h2, of_decide_eq_true h3, h4, eqO_ok h5, eqO_ok h6, of_decide_eq_true h7, of_decide_eq_true h8⟩
/-- the class's facts, from the hook -/
theorem InD.xc {P : Program} {K : PySem.W.Frag} {d : InD} {m : Str} {p1 p2 q1 q2 q3 q4 q5 q6 q7 q8 q9 q10 : Pos} (e : fnXo K d.x = d.val) (c : d.ok (P.main.file : Str) K = true) (fo : Fx.FOk d.f)
    (hA : defArgs d.st = Fx.xA d.f p1 p2) (hB : defBody d.st = Fx.xB d.f m q1 q2 q3 q4 q5 q6 q7 q8 q9 q10) (hS : defScope d.st = Fx.xS d.f) (hp : (q3.endLine == q5.line) = true)
    (bd : ∀ (fd : FuncData) (p1 p2 : Pos), fd.params = Fx.xA d.f p1 p2 → fd.defaults = .none → ∀ (u1 u2 : Value), bindArgs fd ⟨[u1, u2], []⟩ = pure [(("self" : Str), u1), (d.f, u2)])
    (top : (P.main.scope.names.lookup ("super" : Str)).isSome = false) : Fx.XC K P d.x d.f (ga K d.x) := by
  obtain ⟨c0, c⟩ := ba c
  obtain ⟨c1, c⟩ := ba c
  obtain ⟨c2, c⟩ := ba c
  obtain ⟨c3, c⟩ := ba c
  obtain ⟨c4, c⟩ := ba c
  obtain ⟨c5, c⟩ := ba c
  obtain ⟨c6, c⟩ := ba c
  obtain ⟨c7, c⟩ := ba c
  obtain ⟨c8, c⟩ := ba c
  obtain ⟨c9, c⟩ := ba c
  obtain ⟨c10, c⟩ := ba c
  obtain ⟨c11, c⟩ := ba c
  obtain ⟨c12, c⟩ := ba c
  obtain ⟨c13, c14⟩ := ba c
  refine ⟨fo, clsB_ok c1, eqO_ok c2, eqO_ok c3, eqO_ok c4, eqO_ok c5, c6, of_decide_eq_true c7, of_decide_eq_true c8, of_decide_eq_true c9, c10, eqO_ok c11, ⟨_, eqO_ok c12, of_decide_eq_true c13, ?_⟩, bd, top⟩
  unfold iniB at c14
  unfold fnXo at e
  cases q : K.lookup (ma K (ga K d.x) "__init__") with
  | none =>
    rw [q] at c14
    cases c14
  | some o =>
    obtain ⟨oc, od, dt, osl⟩ := o
    rw [q] at c14 e
    cases dt with
    | func fd =>
      obtain ⟨n1, n2, n3, n4, n5, n6, n7, n8, n9, n10, n11, n12, n13, n14, n15⟩ := fd
      have e2 : (some (n1, n2, n3, n4, n5, n6, n7.map (·.1), n8, n15) : FnX) = some (("__init__" : Str), d.qual, defArgs d.st, FuncBody.stmts (defBody d.st), defScope d.st, mainGlobals, [("__class__" : Str)], Value.none, builtinsNs) := e
      simp only [Option.some.injEq, Prod.mk.injEq] at e2
      obtain ⟨h1, h2, h3, h4, h5, h6, h7, h8, h9⟩ := e2
      subst h1 h2 h3 h4 h5 h6 h8 h9
      dsimp only at c14
      cases n7 with
      | nil => cases h7
      | cons a n7 =>
        cases n7 with
        | cons b n7 =>
          have z := congrArg List.length h7
          simp at z
        | nil =>
          obtain ⟨nm, cc⟩ := a
          have h7' : nm = ("__class__" : Str) := by
            have z := List.cons.inj h7
            exact z.1
          subst h7'
          cases n13 with
          | ref cda =>
            dsimp only at c14
            obtain ⟨d1, d2⟩ := ba c14
            obtain ⟨d3, d4⟩ := ba d2
            split at d3
            · rename_i ccl cdd vs ccs hl
              split at d3
              · rename_i n tf hvs
                have en : n = (P.main.file : Str) := of_decide_eq_true d3
                subst en
                split at d4
                · rename_i cl cld D csl hcell
                  have eD : D = ga K d.x := of_decide_eq_true d4
                  subst eD
                  refine ⟨d.qual, m, oc, od, n9, n10, n11, n12, cda, cc, n14, osl, p1, p2, q1, q2, q3, q4, q5, q6, q7, q8, q9, q10, ccl, cdd, vs, ccs, tf, cl, cld, csl, ?_, d1, hl, hvs, hcell, hp⟩
                  rw [hA, hB, hS]
                · cases d4
              · cases d3
            · cases d3
          | _ => cases c14
    | _ => cases c14
/-! ### the Hook -/
abbrev AlX : Type := Bool × List FnW × List FnX
def obsX (file : Str) (fa : List Fct) (fn : List DefD) (fi : List InD) (K : PySem.W.Frag) : AlX := (((fa.all fun f => f K) && (fn.all fun d => d.ok K)) && (fi.all fun d => d.ok file K), fn.map (fun d => fnW K d.at_), fi.map fun d => fnXo K d.x)
def valX (fn : List DefD) (fi : List InD) : AlX := (true, fn.map DefD.val, fi.map InD.val)
def SaysX (file : Str) (fa : List Fct) (fn : List DefD) (fi : List InD) (K : PySem.W.Frag) : Prop := obsX file fa fn fi K = valX fn fi
def obsXG (n : Nat) (file : Str) (fa : List Fct) (fn : List DefD) (fi : List InD) (g : Addr → Option Obj) : AlX := obsX file fa fn fi (frG g (asR g n))
def hookX (n : Nat) (file : Str) (fa : List Fct) (fn : List DefD) (fi : List InD) : PySem.W.Hook where
  α := AlX
  obs := fun s => obsXG n file fa fn fi s.heap.get?
  val := fun _ => valX fn fi
  says := fun _ h => ∃ K : PySem.W.Frag, K.In h ∧ SaysX file fa fn fi K
  of := fun _ _ e => ⟨_, frG_in, e⟩
  keeps := fun _ _ _ ⟨K, hK, c⟩ k => ⟨K, PySem.W.Frag.In.keeps hK k, c⟩
theorem obsXG_eq {n : Nat} {file : Str} {fa : List Fct} {fn : List DefD} {fi : List InD} {g : Addr → Option Obj} {s : Shared} (h : ∀ a, g a = s.heap.get? a) : obsXG n file fa fn fi g = (hookX n file fa fn fi).obs s := by
  have e : g = s.heap.get? := funext h
  rw [e] <;> rfl
section
variable {file : Str} {fa : List Fct} {fn : List DefD} {fi : List InD} {K : PySem.W.Frag}
theorem SaysX.fact (c : SaysX file fa fn fi K) (i : Nat) {f : Fct} (h : fa[i]? = some f := by rfl) : f K = true := by
  have c1 := (ba (ba (show (((fa.all fun f => f K) && (fn.all fun d => d.ok K)) && (fi.all fun d => d.ok file K)) = true from congrArg (fun z : AlX => z.1) c)).1).1
  exact List.all_eq_true.mp c1 f (List.mem_of_getElem? h)
theorem SaysX.def_ (c : SaysX file fa fn fi K) (i : Nat) {d : DefD} (h : fn[i]? = some d := by rfl) : ∃ fd, FunD K d.name d.qual d.params d.body d.scope (d.dvs K) (d.kws K) (fAd K d.at_) fd := by
  have c2 := (ba (ba (show (((fa.all fun f => f K) && (fn.all fun d => d.ok K)) && (fi.all fun d => d.ok file K)) = true from congrArg (fun z : AlX => z.1) c)).1).2
  have e : fn.map (fun d => fnW K d.at_) = fn.map DefD.val := congrArg (fun z : AlX => z.2.1) c
  have e2 : (fn.map fun d => fnW K d.at_)[i]? = (fn.map DefD.val)[i]? := by rw [e]
  rw [List.getElem?_map, List.getElem?_map, h] at e2
  exact DefD.funD (Option.some.inj e2) (List.all_eq_true.mp c2 d (List.mem_of_getElem? h))
theorem SaysX.ini (c : SaysX file fa fn fi K) (i : Nat) {d : InD} (h : fi[i]? = some d := by rfl) : fnXo K d.x = d.val ∧ d.ok file K = true := by
  have c2 := (ba (show (((fa.all fun f => f K) && (fn.all fun d => d.ok K)) && (fi.all fun d => d.ok file K)) = true from congrArg (fun z : AlX => z.1) c)).2
  have e : fi.map (fun d => fnXo K d.x) = fi.map InD.val := congrArg (fun z : AlX => z.2.2) c
  have e2 : (fi.map fun d => fnXo K d.x)[i]? = (fi.map InD.val)[i]? := by rw [e]
  rw [List.getElem?_map, List.getElem?_map, h] at e2
  exact ⟨Option.some.inj e2, List.all_eq_true.mp c2 d (List.mem_of_getElem? h)⟩
end
end FxH
/-! Short words over the layer: a def by its name (Src), a def that keeps its promise (Cal), constants (Cst) -/
namespace Fx
open PySem PySem.Spec PyProof.Rows L2
/-- a def of the text as it stands behind the top -/
def Src (K : PySem.W.Frag) (mg : Str → Option Value) (x : Str) (st : Stmt) : Prop := ∃ f fd, mg x = some (.ref f) ∧ FunD K x x (defArgs st) (defBody st) (defScope st) [] [] f fd
/-- a def that keeps its promise -/
structure Cal (P : Program) (w : World) (K : PySem.W.Frag) (mg : Str → Option Value) (base : Heap) (CX : CXT) (k : Nat) (x : Str) (ps : List Str) (sp : Sp) : Prop where
  ex : ∃ f fd, mg x = some (.ref f) ∧ PySem.W.keepIn K (.ref f) = true ∧ Binds K fd ps [] ∧ FnOk P w K mg base CX k f fd ps sp
/-- a constant of the module -/
def Cst (mg : Str → Option Value) (x : Str) (v : V) : Prop := ∃ u, mg x = some u ∧ RelV v u
section
variable {P : Program} {w : World} {K : PySem.W.Frag} {mg : Str → Option Value} {base : Heap} {x : Str} {st : Stmt} {N ps : List Str} {k : Nat} {sp : Sp}
abbrev BindP (x : Str) (st : Stmt) (ps : List Str) : Prop := ∀ (kV doc pm : Value) (an : Option Addr) (cdv ct : Value) (us : List Value), us.length = ps.length → bindArgs (PySem.W.fnOf x x (defArgs st) (defBody st) (defScope st) .none kV doc pm an cdv ct) ⟨us, []⟩ = pure (ps.zip us)
/-- a def that lets nothing out -/
theorem Src.cal (S : Src K mg x st) (sc : FnScope N ps (defScope st)) (bn : BindP x st ps) (len : ∀ vs H Q E, sp vs H Q E → vs.length = ps.length)
    (hbody : ∀ (f : Addr) (cdv : Value) (A : Around) (outer : List Env) (s : Shared) (H : Hp) (vs : List V) (Q : VK) (E : XK), Room k (A.deeper (envOfC x (defScope st) s.heap.objs.size f cdv)) → sp vs H Q E →
      ∃ t, PSs (cxOf CX0 P w K mg base N x (defScope st) f cdv A outer s H E).nox (defBody st) t ∧ t { nx := fun _ H' => Q .non H', rt := Q } (start N vs) H) : Cal P w K mg base CX0 (k + 1) x ps sp := by
  obtain ⟨f, fd, g, F⟩ := S
  refine ⟨f, fd, g, F.kp, F.bindsN bn, F.ok sc len fun cdv A outer s H vs Q E hr hsp => ?_⟩
  obtain ⟨t, h, q⟩ := hbody f cdv A outer s H vs Q E hr hsp
  exact ⟨t, h.nox, q⟩
/-- a def that may raise -/
theorem Src.calX (S : Src K mg x st) (sc : FnScope N ps (defScope st)) (bn : BindP x st ps) (len : ∀ vs H Q E, sp vs H Q E → vs.length = ps.length)
    (hbody : ∀ (f : Addr) (cdv : Value) (A : Around) (outer : List Env) (s : Shared) (H : Hp) (vs : List V) (Q : VK) (E : XK), Room k (A.deeper (envOfC x (defScope st) s.heap.objs.size f cdv)) → sp vs H Q E →
      ∃ t, PSs (cxOf (L2.CX P w) P w K mg base N x (defScope st) f cdv A outer s H E) (defBody st) t ∧ t { nx := fun _ H' => Q .non H', rt := Q } (start N vs) H) : Cal P w K mg base (L2.CX P w) (k + 1) x ps sp := by
  obtain ⟨f, fd, g, F⟩ := S
  exact ⟨f, fd, g, F.kp, F.bindsN bn, F.ok sc len fun cdv A outer s H vs Q E hr hsp => hbody f cdv A outer s H vs Q E hr hsp⟩
end
/-! ### arguments without a star -/
def nostar : Expr → Bool
  | .Starred _ _ => false
  | _ => true
theorem star_ok {e : Expr} {es : List Expr} {env : Env} (h : nostar e = true) : starEach (e :: es) env = (false, eval e env) :: starEach es env := by
  cases e <;> first | rfl | cases h
theorem back_ok {pos : Pos} {env : Env} : ∀ {es : List Expr}, es.all nostar = true → (backTo pos (starEach es env)).any (·.1) = false
  | [], _ => rfl
  | e :: es, h => by
    simp only [List.all_cons, Bool.and_eq_true] at h
    rw [star_ok h.1]
    show (false || (backTo pos (starEach es env)).any (·.1)) = false
    rw [back_ok h.2]
    rfl
theorem pa_c {X : Cx} {e : Expr} {es : List Expr} {te : TE} {t : TA} (ha : PE X e te) (hr : PA X es t) (hs : nostar e = true := by rfl) : PA X (e :: es) (tCons te t) := pa_cons ha hr (star_ok hs)
section
variable {X : Cx} {x : Str} {p pos : Pos} {e : Expr} {es : List Expr} {t : TA} {id T : String} {r : List V → Hp → VK → Prop}
theorem pe_cB (hc : CallR X (.builtin id) r) (hm : X.mg x = none) (hv : bootBuiltins x = some (.builtin id)) (ha : PA X (e :: es) t) (hg : Gl X x := by rfl) (hn : x ≠ "__name__" := by decide) (hdb : (x == ("__debug__" : Str)) = false := by decide)
    (hs : (e :: es).all nostar = true := by rfl) : PE X (.Call (.Name x p) (e :: es) [] pos) (tCB r t) := by
  simp only [List.all_cons, Bool.and_eq_true] at hs
  exact pe_callB hc hg hm hv ha hn hdb (star_ok hs.1) (back_ok hs.2)
theorem pe_cTy (hc : CallR X (.type T) r) (hm : X.mg x = none) (hv : bootBuiltins x = some (.type T)) (ha : PA X (e :: es) t) (hg : Gl X x := by rfl) (hn : x ≠ "__name__" := by decide) (hdb : (x == ("__debug__" : Str)) = false := by decide)
    (hs : (e :: es).all nostar = true := by rfl) : PE X (.Call (.Name x p) (e :: es) [] pos) (tCB r t) := by
  simp only [List.all_cons, Bool.and_eq_true] at hs
  exact pe_callTy hc hg hm hv ha hn hdb (star_ok hs.1) (back_ok hs.2)
end
section
variable {X : Cx} {x : Str} {ps : List Str} {sp : Sp} {k : Nat} {CX : CXT} {E : XK} {e : Expr} {es : List Expr} {t : TA} {p pos : Pos}
/-- f(e, ..) -/
theorem pe_cal (C : Cal X.prog X.w X.K X.mg X.base CX k x ps sp) (hr : Room k X.A) (hx : Passes CX X E) (ha : PA X (e :: es) t) (hg : Gl X x := by rfl) (hdb : (x == ("__debug__" : Str)) = false := by decide)
    (hs : (e :: es).all nostar = true := by rfl) : PE X (.Call (.Name x p) (e :: es) [] pos) (tCall sp [] E t) := by
  obtain ⟨f, fd, g, kp, b, F⟩ := C.ex
  simp only [List.all_cons, Bool.and_eq_true] at hs
  exact pe_call F hr hg g kp b .nil hx ha hdb (star_ok hs.1) (back_ok hs.2)
theorem pe_cal0 (C : Cal X.prog X.w X.K X.mg X.base CX k x ps sp) (hr : Room k X.A) (hx : Passes CX X E) (hg : Gl X x := by rfl) (hdb : (x == ("__debug__" : Str)) = false := by decide) : PE X (.Call (.Name x p) [] [] pos) (tCall sp [] E tNil) := by
  obtain ⟨f, fd, g, kp, b, F⟩ := C.ex
  exact pe_call0 F hr hg g kp b .nil hx hdb
/-- f(e, ..) of a def that may raise, in a try's body -/
theorem pe_calS {W : WX} (C : Cal X.prog X.w X.K X.mg X.base (L2.CX X.prog X.w) k x ps sp) (hr : Room k X.A) (tk : Takes X W) (ha : PA X (e :: es) t) (hg : Gl X x := by rfl) (hdb : (x == ("__debug__" : Str)) = false := by decide)
    (hs : (e :: es).all nostar = true := by rfl) : PE X (.Call (.Name x p) (e :: es) [] pos) (tCallS sp (WE W) t) := by
  obtain ⟨f, fd, g, kp, b, F⟩ := C.ex
  simp only [List.all_cons, Bool.and_eq_true] at hs
  exact pe_callS F hr hg g kp b (fun σ => passAt tk σ) ha hdb (star_ok hs.1) (back_ok hs.2)
theorem pe_cst {v : V} (h : Cst X.mg x v) (hg : Gl X x := by rfl) (hdb : (x == ("__debug__" : Str)) = false := by decide) : PE X (.Name x p) (tC v) := by
  obtain ⟨u, hm, r⟩ := h
  exact pe_glob hg hm r hdb
end
end Fx
/-! The law's bag of numbers -/
namespace Fx
open PySem PySem.Spec PyProof.Rows L2
def bagKV (c : Addr) (a r m n : Int) : List (Key × V) := [(.inr "cells", .ref c), (.inr "at", .int a), (.inr "rest", .int r), (.inr "mixed", .int m), (.inr "count", .int n)]
section
variable {c : Addr} {a r m n : Int} {v : Int}
theorem bag_cells : valV (bagKV c a r m n) (.inr "cells") = some (.ref c) := rfl
theorem bag_at : valV (bagKV c a r m n) (.inr "at") = some (.int a) := rfl
theorem bag_rest : valV (bagKV c a r m n) (.inr "rest") = some (.int r) := rfl
theorem bag_mixed : valV (bagKV c a r m n) (.inr "mixed") = some (.int m) := rfl
theorem bag_count : valV (bagKV c a r m n) (.inr "count") = some (.int n) := rfl
theorem bag_atP : putK (bagKV c a r m n) (.inr "at") (.int v) = bagKV c v r m n := rfl
theorem bag_restP : putK (bagKV c a r m n) (.inr "rest") (.int v) = bagKV c a v m n := rfl
theorem bag_mixedP : putK (bagKV c a r m n) (.inr "mixed") (.int v) = bagKV c a r v n := rfl
theorem bag_countP : putK (bagKV c a r m n) (.inr "count") (.int v) = bagKV c a r m v := rfl
end
/-- the bag at b, its numbers at c -/
def BagC (H : Hp) (b c : Addr) : Prop := ∃ (ns : List Int) (a r m n : Int), H b = some (.dK (bagKV c a r m n)) ∧ H c = some (.lst (ns.map V.int)) ∧ 0 ≤ a
def Bag (H : Hp) (b : Addr) : Prop := ∃ c : Addr, BagC H b c
/-- all that was tracked but the bag is as it was; the bag is a bag -/
structure Kp (b : Addr) (H H' : Hp) : Prop where
  keep : ∀ a o, a ≠ b → H a = some o → H' a = some o
  bag : Bag H' b
  cel : ∀ c, BagC H b c → BagC H' b c
section
variable {b c D : Addr} {H H1 H2 : Hp}
theorem Bag.some (B : Bag H b) : ∃ kvs, H b = some (.dK kvs) := by
  obtain ⟨c, ns, a, r, m, n, h, _⟩ := B
  exact ⟨_, h⟩
theorem BagC.same (B : BagC H b c) (s : Same H H1) : BagC H1 b c := by
  obtain ⟨ns, a, r, m, n, h1, h2, h3⟩ := B
  exact ⟨ns, a, r, m, n, s _ _ h1, s _ _ h2, h3⟩
theorem Kp.refl (B : Bag H b) : Kp b H H := ⟨fun _ _ _ h => h, B, fun _ h => h⟩
theorem Kp.trans (x : Kp b H H1) (y : Kp b H1 H2) : Kp b H H2 := ⟨fun a o n h => y.keep a o n (x.keep a o n h), y.bag, fun c h => y.cel c (x.cel c h)⟩
theorem Bag.same (B : Bag H b) (s : Same H H1) : Bag H1 b := by
  obtain ⟨c, h⟩ := B
  exact ⟨c, h.same s⟩
theorem Kp.same (B : Bag H b) (s : Same H H1) : Kp b H H1 := ⟨fun a o _ h => s a o h, B.same s, fun c h => h.same s⟩
theorem Kp.then (x : Kp b H H1) (s : Same H1 H2) : Kp b H H2 := x.trans (Kp.same x.bag s)
theorem BagC.put {o : HO} (B : BagC H b c) (hb : b ≠ D) (hc : c ≠ D) : BagC (upd H D o) b c := by
  obtain ⟨ns, a, r, m, n, h1, h2, h3⟩ := B
  exact ⟨ns, a, r, m, n, by rw [upd_ne hb]; exact h1, by rw [upd_ne hc]; exact h2, h3⟩
/-- what was made since then may be changed -/
theorem Kp.put {o : HO} (B : Bag H b) (x : Kp b H H1) (hD : H D = Option.none) : Kp b H (upd H1 D o) := by
  have g : ∀ c, BagC H b c → BagC (upd H1 D o) b c := by
    intro c Bc
    have B1 := x.cel c Bc
    obtain ⟨ns, a, r, m, n, h1, h2, h3⟩ := Bc
    exact B1.put (ne_of_none h1 hD) (ne_of_none h2 hD)
  obtain ⟨c, Bc⟩ := B
  exact ⟨fun a o' n h => by rw [upd_ne (ne_of_none h hD)]; exact x.keep a o' n h, ⟨c, g c Bc⟩, g⟩
theorem Kp.none_ne (x : Kp b H H1) (B : Bag H b) (hD : H D = Option.none) : D ≠ b := fun e => by
  obtain ⟨kvs, h⟩ := B.some
  rw [← e, hD] at h
  cases h
theorem Bag.lst (B : Bag H b) {a : Addr} {xs : List V} (h : H a = Option.some (.lst xs)) : a ≠ b := by
  obtain ⟨c, ns, x, r, m, n, h1, _⟩ := B
  exact ne_of h h1 (by intro z; cases z)
theorem Bag.tup (B : Bag H b) {a : Addr} {xs : List V} (h : H a = Option.some (.tup xs)) : a ≠ b := by
  obtain ⟨c, ns, x, r, m, n, h1, _⟩ := B
  exact ne_of h h1 (by intro z; cases z)
theorem Kp.lst (x : Kp b H H1) (B : Bag H b) {a : Addr} {xs : List V} (h : H a = Option.some (.lst xs)) : H1 a = Option.some (.lst xs) := x.keep _ _ (B.lst h) h
theorem Kp.tup (x : Kp b H H1) (B : Bag H b) {a : Addr} {xs : List V} (h : H a = Option.some (.tup xs)) : H1 a = Option.some (.tup xs) := x.keep _ _ (B.tup h) h
theorem Kp.free (x : Kp b H H1) {p : Addr} (h : H1 p = Option.none) : H p = Option.none := by
  cases q : H p with
  | none => rfl
  | some o =>
    by_cases e : p = b
    · obtain ⟨kvs, hb⟩ := x.bag.some
      rw [e, hb] at h
      cases h
    · rw [x.keep p o e q] at h
      cases h
theorem same_new {H : Hp} {p : Addr} {o : HO} (h : H p = Option.none) : Same H (upd H p o) := fun b x e => by
  rw [upd_ne (ne_of_none e h)]
  exact e
end
/-- _law_pick(bag, many) -/
def spPick : Sp := fun vs H Q _ => ∃ (b : Addr) (many : Int), vs = [.ref b, .int many] ∧ Bag H b ∧ 0 < many ∧ many < 1073741824 ∧ ∀ (n : Int) (H' : Hp), 0 ≤ n → n < many → Kp b H H' → Q (.int n) H'
/-- _law_bag(script) -/
def spBag (K : PySem.W.Frag) : Sp := fun vs H Q _ => ∃ (a : Addr) (ns : List Int), vs = [.ref a] ∧ SqL K H a (ns.map V.int) ∧ ns.length ≤ 1000 ∧ ∀ (b : Addr) (H' : Hp), Same H H' → H b = none → Bag H' b → Q (.ref b) H'
end Fx
/-! Readings evaluated by simp -/
namespace Fx
open PySem PySem.Spec PyProof.Rows L2
section
variable {H H' : Hp} {a b p : Addr} {z : Str} {i : Int} {r : Option V} {v : V} {kvs : List (Key × V)} {o u : HO}
theorem dget_s (hb : H b = some (.dK kvs)) : DGet H b (.str z) r ↔ r = valV kvs (.inr z) := by
  constructor
  · rintro (⟨kvs', k, hr, e, rfl⟩ | ⟨kvs', k, b', hr, e, _⟩)
    · rcases hr with hr | ⟨o, hr⟩
      · rw [hb] at hr
        cases hr
        cases k with
        | inl i => cases e
        | inr y => cases e; rfl
      · rw [hb] at hr
        cases hr
    · cases e
  · rintro rfl
    exact DGet.k (k := Sum.inr z) hb
theorem dget_i (hb : H b = some (.dK kvs)) : DGet H b (.int i) r ↔ r = valV kvs (.inl i) := by
  constructor
  · rintro (⟨kvs', k, hr, e, rfl⟩ | ⟨kvs', k, b', hr, e, _⟩)
    · rcases hr with hr | ⟨o, hr⟩
      · rw [hb] at hr
        cases hr
        cases k with
        | inl i => cases e; rfl
        | inr y => cases e
      · rw [hb] at hr
        cases hr
    · cases e
  · rintro rfl
    exact DGet.k (k := Sum.inl i) hb
theorem dput_s (hb : H b = some (.dK kvs)) (hl : kvs.length < 1000) : DPut H b (.str z) v H' ↔ H' = upd H b (.dK (putK kvs (.inr z) v)) := by
  constructor
  · rintro (⟨kvs', k, hr, e, _, rfl⟩ | ⟨kvs', k, b', hr, e, _⟩)
    · rw [hb] at hr
      cases hr
      cases k with
      | inl i => cases e
      | inr y => cases e; rfl
    · cases e
  · rintro rfl
    exact DPut.k (k := Sum.inr z) hb (Nat.lt_of_lt_of_le hl (by decide))
theorem dget_su : DGet (upd H b (.dK kvs)) b (.str z) r ↔ r = valV kvs (.inr z) := dget_s upd_same
theorem dput_su (hl : kvs.length < 1000) : DPut (upd H b (.dK kvs)) b (.str z) v H' ↔ H' = upd H b (.dK (putK kvs (.inr z) v)) := by
  rw [dput_s upd_same hl, upd_upd]
theorem bag_len {c : Addr} {a r m n : Int} : (bagKV c a r m n).length < 1000 := show 5 < 1000 by decide
theorem ite_dec {p : Prop} [Decidable p] {A B : Prop} : (if decide p = true then A else B) ↔ (if p then A else B) := by simp
theorem ite_ndec {p : Prop} [Decidable p] {A B : Prop} : (if (!decide p) = true then A else B) ↔ (if p then B else A) := by
  by_cases h : p <;> simp [h]
end
end Fx
namespace Fx
open PySem PySem.Spec PyProof.Rows L2
/-- one statement first; the rest stays folded -/
theorem seqI {t u : TS} {D : Ends} {σ : L2.St} {H : Hp} (h : ∀ K : L2.St → Hp → Prop, (∀ σ H, u D σ H → K σ H) → t { D with nx := K } σ H) : tSeq t u D σ H := h (u D) fun _ _ x => x
theorem ifI {tc : TT} {t u : TS} {D : Ends} {σ : L2.St} {H : Hp} (h : ∀ A B : Hp → Prop, (∀ H1, t D σ H1 → A H1) → (∀ H1, u D σ H1 → B H1) → tc σ H (fun b H1 => if b = true then A H1 else B H1)) : tIfS tc t u D σ H := h (t D σ) (u D σ) (fun _ x => x) (fun _ x => x)
theorem while_i {c : TT} {tb : TS} {D : Ends} {σ : L2.St} {H : Hp} (Pv : L2.St → Hp → Prop) (μ : L2.St → Hp → Nat) (h0 : Pv σ H)
    (hs : ∀ σ H, Pv σ H → ∀ A B : Hp → Prop, (∀ H1, tb { D with nx := fun σ' H' => Pv σ' H' ∧ μ σ' H' < μ σ H, ct := fun σ' H' => Pv σ' H' ∧ μ σ' H' < μ σ H, bk := D.nx } σ H1 → A H1) → (∀ H1, D.nx σ H1 → B H1) → c σ H fun b H1 => if b = true then A H1 else B H1) : tWhile c tb D σ H := by
  refine ⟨fun m σ H => m = μ σ H ∧ Pv σ H, ⟨_, rfl, h0⟩, ?_⟩
  rintro m σ H ⟨rfl, p⟩
  exact hs σ H p _ _ (fun H1 t => ⟨fun σ' H' => Pv σ' H' ∧ μ σ' H' < μ σ H, fun σ' H' ⟨a, b⟩ => ⟨μ σ' H', b, rfl, a⟩, t⟩) (fun H1 x => x)
theorem forI {wi : TI} {g : TG} {tb : TS} {D : Ends} {σ : L2.St} {H : Hp} (h : ∀ R : It → Hp → Prop, (∀ J H1, (∃ W : Nat → Nat → L2.St → Hp → Prop, (∃ m, W 0 m σ H1) ∧ ∀ i m σ H, W i m σ H →
    (J.stop i H ∧ D.nx σ H) ∨ (J.go i H ∧ ∃ N : L2.St → Hp → Prop, (∀ σ' H', N σ' H' → ∃ m', m' < m ∧ W (i + 1) m' σ' H') ∧ ∀ x H', J.yld i H x H' → g x σ H' fun σ2 H2 => tb { D with nx := N, ct := N, bk := D.nx } σ2 H2)) → R J H1) → wi σ H R) : tFor wi g tb D σ H := h _ fun _ _ x => x
theorem ite_i {c A B : Prop} [Decidable c] (h1 : c → A) (h2 : ¬ c → B) : if c then A else B := ite2 h1 h2
theorem sz {n : Nat} (h : n ≤ 100000) : n ≤ sizeLine := Nat.le_trans h (by decide)
end Fx
namespace Fx
open PySem PySem.Spec PyProof.Rows L2
theorem cx_K {CX : CXT} {P : Program} {w : World} {K : PySem.W.Frag} {mg : Str → Option Value} {base : Heap} {N : List Str} {qual : Str} {scope : Scope} {f : Addr} {cd : Value} {A : Around} {outer : List Env} {s : Shared} {H : Hp} {E : XK} :
    (cxOf CX P w K mg base N qual scope f cd A outer s H E).K = K := rfl
end Fx
/-! Rules whose readings ask the tracked heap alone -/
namespace Fx
open PySem PySem.Spec PyProof.Rows L2
section
variable {X : Cx}
theorem IxR.imp {r r' : R2} (h : IxR X r) (i : ∀ x y H Q, r' x y H Q → r x y H Q) : IxR X r' := by
  intro value slice pins s σ H x y v u Q I rx ry q e
  exact h value slice pins s σ H x y v u Q I rx ry (i _ _ _ _ q) e
theorem CallR.imp {f : Value} {r r' : List V → Hp → VK → Prop} (h : CallR X f r) (i : ∀ xs H Q, r' xs H Q → r xs H Q) : CallR X f r' := fun pins s σ H xs us Q I rx q => h pins s σ H xs us Q I rx (i _ _ _ q)
theorem SlR.imp {r r' : V → Option Int → Option Int → Hp → VK → Prop} (h : SlR X r) (i : ∀ x lo hi H Q, r' x lo hi H Q → r x lo hi H Q) : SlR X r' := by
  intro pins s σ H x v vl vu lo hi sl Q I rx hs pl pu q
  exact h pins s σ H x v vl vu lo hi sl Q I rx hs pl pu (i _ _ _ _ _ q)
/-- xs[i], a tracked list | tuple -/
def rIxLt : R2 := fun x y H Q => ∃ p i xs, x = .ref p ∧ y = .int i ∧ H p = some (.lst xs) ∧ ∃ v, atI xs i = some v ∧ Q v H
def rIxTt : R2 := fun x y H Q => ∃ p i xs, x = .ref p ∧ y = .int i ∧ H p = some (.tup xs) ∧ ∃ v, atI xs i = some v ∧ Q v H
theorem ix_L : IxR X rIxLt := IxR.imp ix_list fun x y H Q ⟨p, i, xs, e1, e2, h, v, a, q⟩ => ⟨p, xs, i, v, e1, e2, .inl (.inl h), a, q⟩
theorem ix_T : IxR X rIxTt := IxR.imp ix_tup fun x y H Q ⟨p, i, xs, e1, e2, h, v, a, q⟩ => ⟨p, xs, i, v, e1, e2, .inl (.inl h), a, q⟩
/-- s[i] -/
def rIxSt : R2 := fun x y H Q => ∃ z i, x = .str z ∧ y = .int i ∧ z.length ≤ sizeLine ∧ ∃ c, atI z.cps.toList i = some c ∧ Q (.str ⟨#[c]⟩) H
theorem ix_S : IxR X rIxSt := IxR.imp ix_str fun x y H Q ⟨z, i, e1, e2, h, v, a, q⟩ => ⟨z, i, v, e1, e2, h, a, q⟩
/-- len(xs) -/
def rLenL : List V → Hp → VK → Prop := fun xs H Q => ∃ p ys, xs = [.ref p] ∧ H p = some (.lst ys) ∧ Q (.int ys.length) H
def rLenT : List V → Hp → VK → Prop := fun xs H Q => ∃ p ys, xs = [.ref p] ∧ H p = some (.tup ys) ∧ Q (.int ys.length) H
theorem len_L : CallR X (.builtin "len") rLenL := CallR.imp call_len_seq fun xs H Q ⟨p, ys, e, h, q⟩ => ⟨p, ys, e, .inl (.inl (.inl h)), q⟩
theorem len_T : CallR X (.builtin "len") rLenT := CallR.imp call_len_seq fun xs H Q ⟨p, ys, e, h, q⟩ => ⟨p, ys, e, .inr (.inl (.inl h)), q⟩
def rLenS : List V → Hp → VK → Prop := fun xs H Q => ∃ z, xs = [.str z] ∧ z.length ≤ sizeLine ∧ Q (.int z.length) H
theorem len_S : CallR X (.builtin "len") rLenS := call_len_str
/-- int(n) -/
def rIntI : List V → Hp → VK → Prop := fun xs H Q => ∃ i, xs = [.int i] ∧ Q (.int i) H
theorem int_I : CallR X (.type "int") rIntI := CallR.imp call_int1 fun xs H Q h => .inl h
def rOrd : List V → Hp → VK → Prop := fun xs H Q => ∃ x, xs = [.str x] ∧ x.length = 1 ∧ Q (.int (x.cps.getD 0 0 : Nat)) H
theorem ord_S : CallR X (.builtin "ord") rOrd := call_ord
/-- xs[a:b] -/
def rSlLt : V → Option Int → Option Int → Hp → VK → Prop := fun x lo hi H Q => ∃ a xs, x = .ref a ∧ H a = some (.lst xs) ∧ ∀ p, H p = none → Q (.ref p) (upd H p (.lst (cutV xs lo hi)))
theorem sl_L : SlR X rSlLt := SlR.imp sl_list fun x lo hi H Q ⟨a, xs, e, h, q⟩ => ⟨a, xs, e, .inl (.inl h), q⟩
/-- list(t), list(xs) -/
def rLstL : List V → Hp → VK → Prop := fun xs H Q => ∃ p ys, xs = [.ref p] ∧ H p = some (.lst ys) ∧ ∀ l, H l = none → Q (.ref l) (upd H l (.lst ys))
def rLstT : List V → Hp → VK → Prop := fun xs H Q => ∃ p ys, xs = [.ref p] ∧ H p = some (.tup ys) ∧ ∀ l, H l = none → Q (.ref l) (upd H l (.lst ys))
theorem list_L : CallR X (.type "list") rLstL := CallR.imp call_list_of fun xs H Q ⟨p, ys, e, h, q⟩ => ⟨p, ys, e, .inl (.inl (.inl h)), q⟩
theorem list_T : CallR X (.type "list") rLstT := CallR.imp call_list_of fun xs H Q ⟨p, ys, e, h, q⟩ => ⟨p, ys, e, .inr (.inl (.inl h)), q⟩
/-- all(xs), any(xs) of truth values -/
def rAllL : List V → Hp → VK → Prop := fun vs H Q => ∃ (a : Addr) (bs : List Bool), vs = [V.ref a] ∧ H a = some (.lst (bs.map V.bl)) ∧ Q (.bl (bs.all id)) H
def rAnyL : List V → Hp → VK → Prop := fun vs H Q => ∃ (a : Addr) (bs : List Bool), vs = [V.ref a] ∧ H a = some (.lst (bs.map V.bl)) ∧ Q (.bl (bs.any id)) H
theorem all_L (hc : X.calm = true) : CallR X (.builtin "all") rAllL := CallR.imp (cr_all hc) fun xs H Q ⟨p, ys, e, h, q⟩ => ⟨p, ys, e, .inl (.inl h), q⟩
theorem any_L (hc : X.calm = true) : CallR X (.builtin "any") rAnyL := CallR.imp (cr_any hc) fun xs H Q ⟨p, ys, e, h, q⟩ => ⟨p, ys, e, .inl (.inl h), q⟩
/-- s * n -/
def rMulS : R2 := fun x y H Q => ∃ z n, x = .str z ∧ y = .int n ∧ 0 ≤ n ∧ n ≤ 1000000 ∧ z.length * n.toNat ≤ 1000000 ∧ Q (.str (Txt.mul z n)) H
theorem mulOk_of {z : Str} {n : Int} (h0 : 0 ≤ n) (h : z.length * n.toNat ≤ 1000000) (hn : z.length ≠ 0 → n ≤ 1000000) (h63 : n < 2 ^ 63) : MulOk z n := by
  refine ⟨?_, fun h1 h2 => ?_, fun h1 h2 => ?_⟩
  · have a : ¬ n < -(2 ^ 63 : Int) := by omega
    have b : ¬ n ≥ 2 ^ 63 := by omega
    simp only [decide_eq_false a, decide_eq_false b, Bool.or_self]
  · simp only [Bool.or_eq_false_iff, beq_eq_false_iff_ne] at h2
    have hz := hn h2.2
    have hl : z.length ≤ 1000000 := Nat.le_trans (Nat.le_mul_of_pos_right _ (by omega)) h
    have : (2 ^ 63 - 1) / n ≥ 1000000 := by
      apply (Int.le_ediv_iff_mul_le (by omega)).mpr
      have : 1000000 * n ≤ 1000000 * 1000000 := Int.mul_le_mul_of_nonneg_left hz (by decide)
      omega
    omega
  · unfold Builtin.Str.tooLong
    rw [decide_eq_false_iff_not, sizeLine_eq]
    omega
theorem op_mul_str : OpR X (binaryOp .Mult) rMulS := by
  intro pins s σ H x y v u Q I rx ry h
  obtain ⟨z, n, rfl, rfl, h0, h1, hl, q⟩ := h
  obtain ⟨t, rfl⟩ := rx
  obtain ⟨t', rfl⟩ := ry
  exact SB.mul (mulOk_of h0 hl (fun _ => h1) (by omega)) fun t' k => ⟨.str (Txt.mul z n), H, I.tok _, ⟨_, rfl⟩, q⟩
end
/-! ### for i, c in enumerate(text) -/
def Ites (z : Str) : It :=
  ⟨fun i _ => i < z.cps.size, fun i H v H' => ∃ T c, v = .ref T ∧ H T = none ∧ H' = upd H T (.tup [.int (i : Nat), .str ⟨#[c]⟩]) ∧ z.cps[i]? = some c, fun i _ => z.cps.size ≤ i⟩
theorem strDraws {P : Program} {w : World} {A : Around} (hh : A.handled = none) (it : Addr) (x : Str) (t : Tok) : Draws P w A it [it] x.cps.size (fun i v => ∃ c u, x.cps[i]? = some c ∧ v = .str ⟨#[c]⟩ u) (fun i h => h.IsStrIter it (strIterType x) x t i) := by
  have e : strIterType x = "str_ascii_iterator" ∨ strIterType x = "str_iterator" := by
    unfold strIterType
    split
    · exact .inl rfl
    · exact .inr rfl
  rcases e with e | e
  · rw [e]; exact Draws.strAscii hh it x t
  · rw [e]; exact Draws.strWide hh it x t
theorem turn_enumS {P : Program} {w : World} {K : PySem.W.Frag} {elts : List Expr} {kk : Nat} {tpos : Pos} (x : Str) (t : Tok) (e it : Addr) :
    Turn P w K (.Tuple elts kk tpos) (Ites x) [e, it] e (fun i h => (∃ old, IsEnum h e it ((i : Nat) : Int) old) ∧ h.IsStrIter it (strIterType x) x t i ∧ i ≤ x.cps.size ∧ e ≠ it) where
  mem := by simp
  obj := fun i h st b hb => by
    obtain ⟨⟨old, he⟩, ⟨o, ho, hc, hd⟩, _⟩ := st
    have e' : b = e ∨ b = it := by simpa using hb
    rcases e' with z | z
    · rw [z]; exact ⟨_, he, fun v q => nomatch q⟩
    · rw [z]; exact ⟨o, ho, fun v q => by rw [hd] at q; cases q⟩
  keep := fun i h h' st k => let ⟨⟨old, he⟩, ⟨o, ho, hr⟩, hi, hne⟩ := st; ⟨⟨old, k e (by simp) _ he⟩, ⟨o, k it (by simp) o ho, hr⟩, hi, hne⟩
  item := by
    intro X hP hw hK hc i pins s σ H E I hf st hg
    subst hP hw hK
    obtain ⟨⟨old, he⟩, hit, hi, hne⟩ := st
    have hel : e < s.heap.objs.size := Heap.lt_size he
    have hil : it < s.heap.objs.size := by obtain ⟨_, q, _⟩ := hit; exact Heap.lt_size q
    have D := strDraws (P := X.prog) (w := X.w) (A := X.A.in1) (show X.A.in1.handled = none from I.ok.hd hc) it x t
    refine wpAny_pyNext_enum_itemD D he hit hg hne (by simpa using hne) fun u h' tk hu ho hit' hT hsz hk => ?_
    obtain ⟨c, tc, hcx, rfl⟩ := hu
    refine ⟨_, rfl, wpAny_letOwnedTupleGo_enum (s := { s with heap := h', toks := tk + 1 }) ho fun h'' he' sb => ?_⟩
    have hT2 : h''.get? s.heap.objs.size = some { cls := .type "tuple", data := .seq #[.int i tk, .str ⟨#[c]⟩ tc] } := (sb.2 _ (Nat.ne_of_gt hel)).trans hT
    have new : ObjOk X.prog X.w (upd H s.heap.objs.size (.tup [.int (i : Nat), .str ⟨#[c]⟩])) h'' s.heap.objs.size (.tup [.int (i : Nat), .str ⟨#[c]⟩]) :=
      ⟨by show 2 ≤ sizeLine; decide, [.int i tk, .str ⟨#[c]⟩ tc], .cons ⟨_, rfl⟩ (.cons ⟨_, rfl⟩ .nil), ⟨_, hT2, rfl, _, rfl⟩⟩
    have I1 : Inv X pins σ (upd H s.heap.objs.size (.tup [.int (i : Nat), .str ⟨#[c]⟩])) { s with heap := h'', toks := tk + 1 } :=
      I.turnedNew (ch := [e, it]) (fun b ob hb q => (sb.2 b (fun z => hb (by simp [z]))).trans (hk b ob (fun z => hb (by simp [z])) (fun z => hb (by simp [z])) q)) hf (Nat.le_refl _) new
    refine ⟨.ref s.heap.objs.size, _, I1, rfl, ⟨_, c, rfl, I.hok.fresh (Nat.le_refl _), rfl, hcx⟩, ⟨⟨.str ⟨#[c]⟩ tc, ?_⟩, ?_, hg, hne⟩, fun b hb => ?_⟩
    · have e1 : ((i + 1 : Nat) : Int) = (i : Int) + 1 := by omega
      rw [e1]; exact he'
    · obtain ⟨o, ho2, hr⟩ := hit'
      exact ⟨o, (sb.2 it (Ne.symm hne)).trans ho2, hr⟩
    · have hb' : b < s.heap.objs.size := by
        have e' : b = e ∨ b = it := by simpa using hb
        rcases e' with z | z
        · rw [z]; exact hel
        · rw [z]; exact hil
      rw [upd_ne (Nat.ne_of_lt hb')]
      exact (hf b hb).1
  done := by
    intro X hP hw hK hc i pins s σ H E I hf st hg
    subst hP hw hK
    obtain ⟨⟨old, he⟩, hit, hi, hne⟩ := st
    have ei : i = x.cps.size := Nat.le_antisymm hi hg
    subst ei
    obtain ⟨f0, f1, f2, f3, f4, f5⟩ := hf it (by simp)
    have D := strDraws (P := X.prog) (w := X.w) (A := X.A.in1) (show X.A.in1.handled = none from I.ok.hd hc) it x t
    exact wpAny_pyNext_enum_endD D he hit fun h' eb => ⟨rfl, I.turned (t' := s.toks) (fun b o hb q => eb b o hb q) f0 f1 f3 f4 f5⟩
  self := fun A i s Q E st h => let ⟨⟨_, he⟩, _⟩ := st; wpAny_pyIter_enum he h
def iEnumS (ta : TA) : TI := fun σ H R => ta σ H fun vs H1 => ∃ z, vs = [.str z] ∧ R (Ites z) H1
theorem pi_enumS {X : Cx} {e : Expr} {ta : TA} {p pos tpos : Pos} {elts : List Expr} {kk : Nat} (hg : Gl X "enumerate") (hm : X.mg "enumerate" = none) (ha : PA X [e] ta) (hs : starEach [e] X.env = [(false, eval e X.env)] := by rfl) :
    PI X (.Tuple elts kk tpos) (.Call (.Name "enumerate" p) [e] [] pos) (iEnumS ta) := by
  refine ⟨fun pins s σ H R I h => ?_⟩
  refine Call_ (ld_blt I hg hm boot_enumerate (PyProof.Rows.callWith_type1 (thn (ha.run pos pins s σ H _ I h) fun us s1 ⟨vs, H1, I1, r1, q1⟩ => ?_) hs rfl))
  obtain ⟨z, ex, q⟩ := q1
  subst ex
  cases r1 with
  | cons r rr =>
    cases rr
    obtain ⟨t, rfl⟩ := r
    refine call_enumerate_str fun h' he hit hsz hk => wpAny_pyIter_enum he ?_
    have I2 : Inv X pins σ H1 { s1 with heap := h' } := I1.kept (t' := s1.toks) hk
    refine ⟨s1.heap.objs.size + 1, [s1.heap.objs.size + 1, s1.heap.objs.size], _, _, H1, rfl, I2, turn_enumS z t (s1.heap.objs.size + 1) s1.heap.objs.size, ⟨⟨.none, he⟩, hit, Nat.zero_le _, Nat.succ_ne_self _⟩, fun b hb => ?_, q⟩
    have e' : b = s1.heap.objs.size + 1 ∨ b = s1.heap.objs.size := by simpa using hb
    have hle : s1.heap.objs.size ≤ b := by
      rcases e' with z | z
      · rw [z]; exact Nat.le_add_right _ _
      · rw [z]; exact Nat.le_refl _
    exact I1.fpOk hle (I1.hok.fresh hle)
/-- the loop over enumerate(text), by an invariant -/
theorem for_enumS {z : Str} {g : TG} {tb : TS} {D : Ends} {σ : L2.St} {H1 : Hp} (Pv : Nat → L2.St → Hp → Prop) (h0 : Pv 0 σ H1)
    (hs : ∀ i c T σ H, z.cps[i]? = some c → Pv i σ H → H T = none → g (.ref T) σ (upd H T (.tup [.int (i : Nat), .str ⟨#[c]⟩])) fun σ' H' => tb { nx := fun σ H => Pv (i + 1) σ H, rt := D.rt, bk := D.nx, ct := fun σ H => Pv (i + 1) σ H } σ' H')
    (hd : ∀ σ H, Pv z.cps.size σ H → D.nx σ H) : ∃ W : Nat → Nat → L2.St → Hp → Prop, (∃ m, W 0 m σ H1) ∧ ∀ i m σ H, W i m σ H →
      ((Ites z).stop i H ∧ D.nx σ H) ∨ ((Ites z).go i H ∧ ∃ N : L2.St → Hp → Prop, (∀ σ' H', N σ' H' → ∃ m', m' < m ∧ W (i + 1) m' σ' H') ∧ ∀ x H', (Ites z).yld i H x H' → g x σ H' fun σ2 H2 => tb { nx := N, rt := D.rt, bk := D.nx, ct := N } σ2 H2) := by
  refine ⟨fun i m σ H => m = z.cps.size - i ∧ i ≤ z.cps.size ∧ Pv i σ H, ⟨_, rfl, Nat.zero_le _, h0⟩, ?_⟩
  rintro i m σ H ⟨rfl, hi, p⟩
  by_cases hlt : i < z.cps.size
  · refine .inr ⟨hlt, fun σ' H' => Pv (i + 1) σ' H', fun σ' H' q => ⟨z.cps.size - (i + 1), by omega, rfl, hlt, q⟩, fun x H' hy => ?_⟩
    obtain ⟨T, c, rfl, nT, rfl, hc⟩ := hy
    exact hs i c T σ H hc p nT
  · have ei : i = z.cps.size := by omega
    subst ei
    exact .inl ⟨Nat.le_refl _, hd σ H p⟩
end Fx
/-! == of flat lists; isinstance of built-in classes -/
namespace Fx
open PySem PySem.Spec PyProof.Rows L2
/-- None, an int, a text: two of these are equal in Python just if they are the same -/
def isF : V → Bool
  | .non => true
  | .int _ => true
  | .str x => PyData.strOk x
  | _ => false
def datV : V → PyData
  | .non => .none
  | .int i => .int i
  | .str x => .str x
  | _ => .none
theorem eqv_dat {x y : V} (hx : isF x = true) (hy : isF y = true) : PyData.eqv (datV x) (datV y) = decide (x = y) := by
  cases x <;> cases y <;> first | (exfalso; revert hx; simp [isF]; done) | (exfalso; revert hy; simp [isF]; done) | (simp [datV, PyData.eqv]; done) | (simp only [datV, PyData.eqv, V.int.injEq, V.str.injEq]; exact Bool.eq_iff_iff.mpr (by simp)) 
theorem eqvAll_dat : ∀ {xs ys : List V}, xs.all isF = true → ys.all isF = true → PyData.eqvAll (xs.map datV) (ys.map datV) = decide (xs = ys)
  | [], [], _, _ => by simp [PyData.eqvAll]
  | [], _ :: _, _, _ => by simp [PyData.eqvAll]
  | _ :: _, [], _, _ => by simp [PyData.eqvAll]
  | x :: xs, y :: ys, hx, hy => by
    simp only [List.all_cons, Bool.and_eq_true] at hx hy
    simp only [List.map_cons, PyData.eqvAll, eqv_dat hx.1 hy.1, eqvAll_dat hx.2 hy.2]
    by_cases e : x = y <;> simp [e]
theorem dp_dat {K : PySem.W.Frag} {H : Hp} {x : V} (hx : isF x = true) : Dp K H x (datV x) := by
  cases x <;> first | (exfalso; revert hx; simp [isF]; done) | exact .non | exact .int _ | exact .str _
theorem dpAll_dat {K : PySem.W.Frag} {H : Hp} : ∀ {xs : List V}, xs.all isF = true → DpAll K H xs (xs.map datV)
  | [], _ => .nil
  | x :: xs, hx => by
    simp only [List.all_cons, Bool.and_eq_true] at hx
    exact .cons (dp_dat hx.1) (dpAll_dat hx.2)
theorem lay_flat : ∀ {xs : List V}, xs.all isF = true → PyData.canLayAll0 (xs.map datV) = true ∧ PyData.depthAll (xs.map datV) = 0
  | [], _ => by simp [PyData.canLayAll0, PyData.depthAll]
  | x :: xs, hx => by
    simp only [List.all_cons, Bool.and_eq_true] at hx
    obtain ⟨h1, h2⟩ := lay_flat hx.2
    have h3 : PyData.canLay0 (datV x) = true ∧ PyData.depth (datV x) = 0 := by
      have hx1 := hx.1
      cases x <;> first | (exfalso; revert hx1; simp [isF]; done) | exact ⟨by simpa [datV, PyData.canLay0, isF] using hx1, by simp [datV, PyData.depth]⟩
    simp [PyData.canLayAll0, PyData.depthAll, h1, h2, h3.1, h3.2]
theorem shaped_flat {xs : List V} (hx : xs.all isF = true) : SeqAt.shaped (.list (xs.map datV)) = true := by
  obtain ⟨h1, h2⟩ := lay_flat hx
  simp [SeqAt.shaped, PyData.canLay0, PyData.depth, h1, h2]
def rEqL : R2 := fun x y H Q => ∃ p q xs ys, x = .ref p ∧ y = .ref q ∧ H p = some (.lst xs) ∧ H q = some (.lst ys) ∧ xs.all isF = true ∧ ys.all isF = true ∧ Q (.bl (decide (xs = ys))) H
theorem eq_LL {X : Cx} (hu : X.A.units + 64 < cLine) : OpR X (compareOp .Eq) rEqL := by
  intro pins s σ H x y v u Q I rx ry h
  obtain ⟨p, q, xs, ys, rfl, rfl, hp, hq, fx, fy, k⟩ := h
  refine op_eqD hu pins s σ H _ _ v u Q I rx ry ⟨.list (xs.map datV), .list (ys.map datV), .lst (.inl (.inl hp)) (dpAll_dat fx), .lst (.inl (.inl hq)) (dpAll_dat fy), shaped_flat fx, shaped_flat fy, ?_⟩
  rw [PyData.eqv, eqvAll_dat fx fy]
  exact k
/-- what built-in type a value is of -/
def tyv (H : Hp) : V → Option String
  | .non => some "NoneType"
  | .bl _ => some "bool"
  | .int _ => some "int"
  | .str _ => some "str"
  | .byt _ => some "bytes"
  | .ref a => (match H a with
    | some (.lst _) => some "list"
    | some (.tup _) => some "tuple"
    | some (.dK _) => some "dict"
    | some (.dT _) => some "dict"
    | _ => none)
  | _ => none
theorem tyv_ok {K : PySem.W.Frag} {H : Hp} {x : V} {t : String} (h : tyv H x = some t) : TyX K H x (.type t) := by
  cases x with
  | non => cases h; exact .base .non
  | bl b => cases h; exact .base (.bl b)
  | int i => cases h; exact .base (.int i)
  | str z => cases h; exact .base (.str z)
  | byt b => cases h; exact .byt b
  | flt b => cases h
  | ty n => cases h
  | ref a =>
    simp only [tyv] at h
    cases e : H a with
    | none => simp only [e] at h; cases h
    | some o =>
      simp only [e] at h
      cases o <;> first | (cases h; done) | (cases h; exact .base (.lst e)) | (cases h; exact .base (.tup e)) | (cases h; exact .base (.dK e)) | (cases h; exact .base (.dT e))
section
variable {H : Hp} {a : Addr} {xs : List V} {kvs : List (Key × V)}
theorem tyv_non : tyv H .non = some "NoneType" := rfl
theorem tyv_bl {b : Bool} : tyv H (.bl b) = some "bool" := rfl
theorem tyv_int {i : Int} : tyv H (.int i) = some "int" := rfl
theorem tyv_str {z : Str} : tyv H (.str z) = some "str" := rfl
theorem tyv_lst (h : H a = some (.lst xs)) : tyv H (.ref a) = some "list" := by simp only [tyv, h]
theorem tyv_tup (h : H a = some (.tup xs)) : tyv H (.ref a) = some "tuple" := by simp only [tyv, h]
theorem tyv_dK (h : H a = some (.dK kvs)) : tyv H (.ref a) = some "dict" := by simp only [tyv, h]
end
def rIsB : List V → Hp → VK → Prop := fun xs H Q => ∃ x n, xs = [x, .ty n] ∧ ∃ t, tyv H x = some t ∧ ∃ b, kitB t n = some b ∧ Q (.bl b) H
theorem is_B {X : Cx} : CallR X (.builtin "isinstance") rIsB := CallR.imp call_isi fun xs H Q ⟨x, n, e, t, ht, b, hb, q⟩ => ⟨x, .ty n, .type t, .type n, b, e, .ty n, tyv_ok ht, kit_ty hb, q⟩
theorem kb_int_int : kitB "int" "int" = some true := by decide +kernel
theorem kb_int_bool : kitB "int" "bool" = some false := by decide +kernel
theorem kb_bool_int : kitB "bool" "int" = some true := by decide +kernel
theorem kb_bool_bool : kitB "bool" "bool" = some true := by decide +kernel
theorem kb_str_str : kitB "str" "str" = some true := by decide +kernel
theorem kb_int_str : kitB "int" "str" = some false := by decide +kernel
theorem kb_bool_str : kitB "bool" "str" = some false := by decide +kernel
theorem kb_none_str : kitB "NoneType" "str" = some false := by decide +kernel
theorem kb_list_str : kitB "list" "str" = some false := by decide +kernel
theorem kb_tuple_str : kitB "tuple" "str" = some false := by decide +kernel
theorem kb_dict_str : kitB "dict" "str" = some false := by decide +kernel
theorem kb_tuple_tuple : kitB "tuple" "tuple" = some true := by decide +kernel
theorem kb_list_list : kitB "list" "list" = some true := by decide +kernel
end Fx
/-! A def whose body begins with a token out (for str.replace): with cells too -/
namespace Fx
open PySem PySem.Spec PyProof.Rows L2
section
variable {M : Model} {A : Around} {E : Value → Shared → Prop} {s₀ s : Shared} {m cm : Str → Option Value} {env : Env}
theorem stLCT {n : Str} {v : Value} {Q : Unit → Shared → Prop} (x : InCallC s₀ env.locals m env.cells cm s) (hk : env.scope.kind = .function) (hl : env.kindOf n = some .local)
    (h : ∀ s', InCallC s₀ env.locals (fun y => if y = n then some v else m y) env.cells cm s' → 1 ≤ s'.toks → Q () s') : wpAny M A (storeName env n v) Q E s := by
  refine wpAny_storeName_local hl x.toInCall.ns (fun h' hn' hs' => h _ ⟨⟨?_, hn', fun b o e => ?_, x.toInCall.fresh⟩, fun k c hc => ?_, x.apart, x.above⟩ (Nat.le_add_left _ _)) (by rw [hk]; rfl)
  · obtain ⟨h₁, tk, rfl⟩ := x.toInCall.same
    exact ⟨h', _, rfl⟩
  · exact hs'.extBut b o (Nat.ne_of_lt (Nat.lt_of_lt_of_le (Heap.lt_size e) x.toInCall.fresh)) (x.toInCall.keep b o e)
  · exact (x.cell k c hc).sameBut hs' (Nat.ne_of_gt (x.above k c (mem_of_lookup hc)))
theorem bindParamsT (f : Str × Value → PUnit → Sem (ForInStep PUnit)) (hf : ∀ n v u, f (n, v) u = (do storeName env n v; pure (.yield ⟨⟩))) (hk : env.scope.kind = .function)
    (n : Str) (v : Value) (r : List (Str × Value)) (hl : env.kindOf n = some .local) (m cm : Str → Option Value) (s : Shared) (Q : PUnit → Shared → Prop) (x : InCallC s₀ env.locals m env.cells cm s)
    (hkind : ∀ y ∈ r, env.kindOf y.1 = some .local ∨ (env.kindOf y.1 = some .cell ∧ (env.cells.lookup y.1).isSome = true))
    (h : ∀ s', InCallC s₀ env.locals (bindL env.kindOf ((n, v) :: r) m) env.cells (bindC env.kindOf ((n, v) :: r) cm) s' → 1 ≤ s'.toks → Q ⟨⟩ s') : wpAny M A (forIn ((n, v) :: r) ⟨⟩ f) Q E s := by
  rw [List.forIn_cons, hf]
  refine wpAny_bind (wpAny_bind (stLCT x hk hl fun s' x' ht => wpAny_pure ?_))
  refine wpAny_with_toks ht (wpAny_bindParams f hf hk r _ _ s' (fun u s'' => 1 ≤ s''.toks → Q u s'') x' hkind fun s'' x'' ht' => h s'' ?_ ht')
  unfold bindL bindC
  rw [if_pos hl, if_pos hl]
  exact x''
end
section
variable {M : Model} {A : Around} {E : Value → Shared → Prop} {s : Shared}
theorem newFunctionEnvT {scope : Scope} {globals : Addr} {n : Str} {v : Value} {r : List (Str × Value)} {qual : Str} {func : Option Addr} {code : Value} {builtins : Addr} {Q : Env → Shared → Prop}
    (hk : scope.kind = .function) (hl : scope.names.lookup n = some .local)
    (hkind : ∀ x ∈ r, scope.names.lookup x.1 = some .local ∨ (scope.names.lookup x.1 = some .cell ∧ ((cellsFrom (s.heap.objs.size + 1) scope.names []).lookup x.1).isSome = true))
    (hQ : ∀ env, env = newEnv scope s.heap.objs.size globals (cellsFrom (s.heap.objs.size + 1) scope.names []) qual func code none builtins →
      ∀ s', InCallC s env.locals (bindL env.kindOf ((n, v) :: r) fun _ => none) env.cells (bindC env.kindOf ((n, v) :: r) fun _ => none) s' → 1 ≤ s'.toks → Q env s') :
    wpAny M A (newFunctionEnv scope globals [] ((n, v) :: r) qual func code none builtins) Q E s := by
  simp only [newFunctionEnv, Option.isSome_none, Bool.false_eq_true, if_false]
  refine wpAny_bind (wpAny_alloc ?_)
  refine wpAny_bind (wpAny_layCells _ (fun name kind cells => by cases hkc : kind == NameKind.cell <;> simp [hkc]) _ _ _ _ ?_)
  have ok := cellsFrom_ok scope.names (s.heap.push { cls := .type "frame", data := .dict #[] }) (s.heap.objs.size + 1) [] ⟨fun _ _ hm => (nomatch hm), List.Pairwise.nil⟩ (by rw [Heap.size_push]; exact Nat.le_refl _)
  rw [Heap.size_push] at ok
  rw [show ({ s with heap := s.heap.push { cls := .type "frame", data := .dict #[] } } : Shared).heap.objs.size = s.heap.objs.size + 1 from Heap.size_push ..]
  refine wpAny_bind (bindParamsT (s₀ := s) (env := newEnv scope s.heap.objs.size globals (cellsFrom (s.heap.objs.size + 1) scope.names []) qual func code none builtins)
    _ (fun _ _ _ => rfl) hk n v r hl (fun _ => none) (fun _ => none) _ _
    ⟨⟨⟨_, _, rfl⟩, (Heap.Ns.new s.heap (.type "frame")).keeps (pushCells_keeps _ _), fun b o e => pushCells_keeps _ _ b o (Heap.get?_push_of_some _ e), Nat.le_refl _⟩,
      fun n c hc => (ok.empty n c (mem_of_lookup hc)).1, ok.apart, fun n c hm => (ok.empty n c hm).2⟩
    hkind fun s' x ht => wpAny_pure (hQ _ rfl s' x ht))
end
/-- a def's body, a token out when it begins; its first parameter is a local -/
theorem fn_ofTC {CX : CXT} {P : Program} {w : World} {K : PySem.W.Frag} {mg : Str → Option Value} {base : Heap} {k : Nat} {f : Addr} {name qual : Str} {params : Arguments} {body : List Stmt} {scope : Scope} {dV kV doc pm cdv ct oc : Value} {an od : Option Addr}
    {osl : Array (Option Value)} {N ps : List Str} {x0 : Str} {sp : Sp} (lk : K.lookup f = some ⟨oc, od, .func (PySem.W.fnOf name qual params body scope dV kV doc pm an cdv ct), osl⟩) (hcd : PySem.W.codeIn K cdv qual = true) (S : FnScope N (x0 :: ps) scope)
    (h0 : scope.names.lookup x0 = some .local) (len : ∀ vs H Q E, sp vs H Q E → vs.length = (x0 :: ps).length)
    (hbody : ∀ (A : Around) (outer : List Env) (s : Shared) (H : Hp) (vs : List V) (Q : VK) (E : XK), Room k (A.deeper (envOfC qual scope s.heap.objs.size f cdv)) → sp vs H Q E →
      ∃ t, PSsT (cxOf CX P w K mg base N qual scope f cdv A outer s H E) body t ∧ t { nx := fun _ H' => Q .non H', rt := Q } (L2.start N vs) H) :
    FnOk P w K mg base CX (k + 1) f (PySem.W.fnOf name qual params body scope dV kV doc pm an cdv ct) (x0 :: ps) sp := by
  refine ⟨len, fun A outer s H args us vs Q E hr e0 hb r hsp => ?_⟩
  have hl := len _ _ _ _ hsp
  have KX : K.In s.heap := e0.mod.kin.keeps fun b o e => (e0.bs b o e).1
  have lim : s.heap.NoLimit := e0.mod.nolimit.keeps fun b o e => (e0.bs b o e).1
  have hul : us.length = (x0 :: ps).length := by rw [← r.length, hl]
  obtain ⟨u0, ur, rfl⟩ : ∃ u0 ur, us = u0 :: ur := by
    cases us with
    | nil => cases hul
    | cons a b => exact ⟨a, b, rfl⟩
  have hkind : ∀ y ∈ ps.zip ur, scope.names.lookup y.1 = some .local ∨ (scope.names.lookup y.1 = some .cell ∧ ((cellsFrom (s.heap.objs.size + 1) scope.names []).lookup y.1).isSome = true) := fun ⟨n, v⟩ hy => by
    rcases S.par n (List.mem_cons_of_mem _ (List.of_mem_zip hy).1) with q | q
    · exact .inl q
    · exact .inr ⟨q, PySem.W.cellsFrom_some _ _ _ (.inl q)⟩
  refine codeAny_call_function hr.depth (KX _ _ lk) rfl S.co S.gen rfl (PySem.W.codeRec_of KX hcd) (hb _ _ _ _ ?_)
  show wpAny _ _ (newFunctionEnv scope _ [] ((x0, u0) :: ps.zip ur) _ _ _ _ _) _ _ _
  refine newFunctionEnvT S.kind h0 hkind fun env he s1 x ht => ?_
  subst he
  refine ⟨lim.keeps x.toInCall.keep, codeAny_func ?_⟩
  obtain ⟨t, hT, hq⟩ := hbody A outer s H vs Q E (hr.deeper _) hsp
  have I : Inv (cxOf CX P w K mg base N qual scope f cdv A outer s H E) [] (L2.start N vs) H s1 := inv_start S hr.hd e0 hl r x
  refine wpAny_mono (hT [] s1 (L2.start N vs) H _ ht I hq) (fun fl s' hs => ?_) fun e s' hs => hs
  have fin : ∀ {σ' : L2.St} {H' : Hp} {v : V} {u : Value}, Inv (cxOf CX P w K mg base N qual scope f cdv A outer s H E) [] σ' H' s' → RelV v u → Q v H' → CE outer P w H s Q u s' :=
    fun {σ' H' v u} J rv q => ⟨v, H', J.os, J.bare, J.base, J.hok, rv, q⟩
  cases fl with
  | ret u =>
    obtain ⟨v, σ', H', J, rv, q⟩ := hs
    exact fin J rv q
  | next =>
    obtain ⟨σ', H', J, q⟩ := hs
    exact fin (v := V.non) (u := Value.none) J rfl q
  | brk =>
    obtain ⟨_, _, _, q⟩ := hs
    exact False.elim q
  | cont =>
    obtain ⟨_, _, _, q⟩ := hs
    exact False.elim q
/-! ### tests, calls, slices with a token out -/
section
variable {X : Cx}
def PTT (X : Cx) (e : Expr) (t : TT) : Prop := ∀ (pins : List (Addr × Obj)) (s : Shared) (σ : L2.St) (H : Hp) (Q : Bool → Hp → Prop), 1 ≤ s.toks → Inv X pins σ H s → t σ H Q → wpAny (model X.prog X.w) X.A (isTrue e X.env (eval e X.env)) (TP X pins σ Q) X.xe s
def PWT (X : Cx) (e : Expr) (t : TT) : Prop := ∀ (whole : Sem Value) (pins : List (Addr × Obj)) (s : Shared) (σ : L2.St) (H : Hp) (Q : Bool → Hp → Prop), 1 ≤ s.toks → Inv X pins σ H s → t σ H Q → wpAny (model X.prog X.w) X.A (isTrue e X.env whole) (TP X pins σ Q) X.xe s
theorem PWT.pt {e : Expr} {t : TT} (h : PWT X e t) : PTT X e t := h _
theorem ptt_val {e : Expr} {t : TE} (h : PET X e t) (he : ∀ whole, isTrue e X.env whole = (do let v ← whole; standAt e.pos; holding [v] (truthy v)) := by intro _; rfl) : PTT X e (tB t) := by
  intro pins s σ H Q ht I hw
  refine isTrue_plain (thn (h pins s σ H _ ht I hw) fun v s1 ⟨x, H1, I1, r1, q1⟩ => ?_) (he _)
  obtain ⟨d, rfl, q⟩ := q1
  cases r1
  exact wpAny_truthy_bool ⟨H1, I1, q⟩
theorem ptt_not {a : Expr} {tA : TT} {pos : Pos} (ha : PTT X a tA) : PTT X (.UnaryOp .Not a pos) (tNot tA) := by
  intro pins s σ H Q ht I h
  exact isTrue_not (ha pins s σ H (fun c H1 => Q (!c) H1) ht I h)
theorem pwt_or1 {a : Expr} {tA : TT} {pos : Pos} (ha : PTT X a tA) : PWT X (.BoolOp .Or [a] pos) tA := by
  intro wh pins s σ H Q ht I h
  refine isTrue_or (thn (ha pins s σ H Q ht I h) fun c s1 e => ?_)
  cases c with
  | false => exact isTrue_or_nil e
  | true => exact e
theorem pwt_or {a b : Expr} {rest : List Expr} {tA tB' : TT} {pos : Pos} (ha : PT X a tA) (hb : PWT X (.BoolOp .Or (b :: rest) pos) tB') : PWT X (.BoolOp .Or (a :: b :: rest) pos) (tOr tA tB') := by
  intro wh pins s σ H Q ht I h
  refine isTrue_or (wpAny_mono (wpAny_toks_of ht (ha.run pins s σ H _ I h)) (fun c s1 z => ?_) fun _ _ z => z.2)
  obtain ⟨ht1, H1, I1, q1⟩ := z
  cases c with
  | true => exact ⟨H1, I1, q1⟩
  | false => exact hb wh pins s1 σ H1 Q ht1 I1 q1
theorem pst_ifT {c : Expr} {a b : List Stmt} {tc : TT} {t u : TS} {pos : Pos} (hc : PTT X c tc) (ha : PSs X a t) (hb : PSs X b u) : PST X (.If c a b pos) (tIfS tc t u) := by
  intro pins s σ H D ht I h
  refine wpAny_If (thn (hc pins s σ H _ ht I h) fun d s1 ⟨H1, I1, q1⟩ => ?_)
  cases d with
  | true => exact ha.run pins s1 σ H1 D I1 q1
  | false => exact hb.run pins s1 σ H1 D I1 q1
theorem psst_s {st : Stmt} {rest : List Stmt} {t u : TS} (h1 : PS X st t) (h2 : PSsT X rest u) : PSsT X (st :: rest) (tSeq t u) := psst_cons (PST.of h1) h2
def noSt : Stmt := .Pass ⟨0, 0, 0, 0⟩
theorem drop_at : ∀ (l : List Stmt) (i : Nat), i < l.length → l.drop i = l.getD i noSt :: l.drop (i + 1)
  | [], i, h => absurd h (Nat.not_lt_zero _)
  | a :: l, 0, _ => rfl
  | a :: l, i + 1, h => drop_at l i (Nat.lt_of_succ_lt_succ h)
/-- PSsT behind a structure: a def that unfolds to a ∀ is walked by the elaborator after every application -/
structure PZ (X : Cx) (l : List Stmt) (t : TS) : Prop where
  run : PSsT X l t
structure PZ1 (X : Cx) (st : Stmt) (t : TS) : Prop where
  run : PST X st t
theorem PZ.of {l : List Stmt} {t : TS} (h : PSs X l t) : PZ X l t := ⟨PSsT.of h⟩
theorem pz_at1 {l : List Stmt} {i : Nat} {t u : TS} (h : i < l.length) (h1 : PZ1 X (l.getD i noSt) t) (h2 : PZ X (l.drop (i + 1)) u) : PZ X (l.drop i) (tSeq t u) := by
  refine ⟨?_⟩
  rw [drop_at l i h]
  exact psst_cons h1.run h2.run
theorem pz_at {l : List Stmt} {i : Nat} {t u : TS} (h : i < l.length) (h1 : PS X (l.getD i noSt) t) (h2 : PZ X (l.drop (i + 1)) u) : PZ X (l.drop i) (tSeq t u) := pz_at1 h ⟨PST.of h1⟩ h2
theorem pz_at0 {l : List Stmt} {t : TS} (h : PZ X (l.drop 0) t) : PZ X l t := h
theorem pz_ifT {c : Expr} {a b : List Stmt} {tc : TT} {t u : TS} {pos : Pos} (hc : PTT X c tc) (ha : PSs X a t) (hb : PSs X b u) : PZ1 X (.If c a b pos) (tIfS tc t u) := ⟨pst_ifT hc ha hb⟩
theorem pss_at {l : List Stmt} {i : Nat} {t u : TS} (h : i < l.length) (h1 : PS X (l.getD i noSt) t) (h2 : PSs X (l.drop (i + 1)) u) : PSs X (l.drop i) (tSeq t u) := by
  rw [drop_at l i h]
  exact pss_cons h1 h2
theorem pss_at0 {l : List Stmt} {t : TS} (h : PSs X (l.drop 0) t) : PSs X l t := h
theorem pet_slice {e : Expr} {te : TE} {lo hi : Option Expr} {tl th : TO} {p2 pos : Pos} {r : V → Option Int → Option Int → Hp → VK → Prop} (hr : SlR X r) (he : PET X e te) (hl : PO X lo tl) (hu : PO X hi th) : PET X (.Subscript e (.Slice lo hi none p2) pos) (tSl r te tl th) := by
  intro pins s σ H Q ht I h
  refine Subscript_ (thn (he pins s σ H _ ht I h) fun v s1 ⟨x, H1, I1, r1, q1⟩ => ?_)
  refine wpAny_Slice (thn (hl.run pins s1 σ H1 _ I1 q1) fun vl s2 ⟨l, H2, I2, pl, q2⟩ => thn (hu.run pins s2 σ H2 _ I2 q2) fun vu s3 ⟨u, H3, I3, pu, q3⟩ => ?_)
  rw [evalPart_none]
  refine wpAny_pure ?_
  have I4 : Inv X pins σ H3 { s3 with heap := s3.heap.push { cls := .type "slice", data := .fields #[vl, vu, .none] } } := I3.kept (t' := s3.toks) fun b ob q => Heap.get?_push_of_some _ q
  obtain ⟨T, id, hT, ht, hg⟩ := hr pins { s3 with heap := s3.heap.push { cls := .type "slice", data := .fields #[vl, vu, .none] } } σ H3 x v vl vu l u s3.heap.objs.size Q I4 r1 (Heap.IsSliceOf.new ..) pl pu q3
  show wpAny (model X.prog X.w) X.A (subscriptTail e (.Slice lo hi none p2) v (.ref s3.heap.objs.size)) (EP X pins σ Q) X.xe { s3 with heap := s3.heap.push { cls := .type "slice", data := .fields #[vl, vu, .none] } }
  exact tail_any (ops := [.ref s3.heap.objs.size, v]) ht hT hg (by with_unfolding_all rfl)
theorem pet_cal {x : Str} {ps : List Str} {sp : Sp} {k : Nat} {CX : CXT} {E : XK} {e : Expr} {es : List Expr} {t : TA} {p pos : Pos} (C : Cal X.prog X.w X.K X.mg X.base CX k x ps sp) (hr : Room k X.A) (hx : Passes CX X E) (ha : PAT X (e :: es) t) (hg : Gl X x := by rfl) (hdb : (x == ("__debug__" : Str)) = false := by decide)
    (hs : (e :: es).all nostar = true := by rfl) : PET X (.Call (.Name x p) (e :: es) [] pos) (tCall sp [] E t) := by
  obtain ⟨f, fd, g, kp, b, F⟩ := C.ex
  simp only [List.all_cons, Bool.and_eq_true] at hs
  intro pins s σ H Q ht I h
  refine wpAny_Call_Name_kw (ld_glob I hg g ?_ hdb)
  refine PySem.W.callWith_K (h₀ := X.base) I.ok.mod.kin kp (thn (ha pos pins s σ H _ ht I h) fun us s1 ⟨vs, H1, I1, r, q⟩ => ⟨I1.kIn, ?_⟩) (star_ok hs.1) (back_ok hs.2)
  exact run_fn F hr b .nil hx I1 r q
end
section
variable {P : Program} {w : World} {K : PySem.W.Frag} {mg : Str → Option Value} {base : Heap} {x x0 : Str} {st : Stmt} {N ps : List Str} {k : Nat} {sp : Sp}
theorem Src.calT (S : Src K mg x st) (sc : FnScope N (x0 :: ps) (defScope st)) (bn : BindP x st (x0 :: ps)) (h0 : (defScope st).names.lookup x0 = some .local) (len : ∀ vs H Q E, sp vs H Q E → vs.length = (x0 :: ps).length)
    (hbody : ∀ (f : Addr) (cdv : Value) (A : Around) (outer : List Env) (s : Shared) (H : Hp) (vs : List V) (Q : VK) (E : XK), Room k (A.deeper (envOfC x (defScope st) s.heap.objs.size f cdv)) → sp vs H Q E →
      ∃ t, PZ (cxOf CX0 P w K mg base N x (defScope st) f cdv A outer s H E) (defBody st) t ∧ t { nx := fun _ H' => Q .non H', rt := Q } (L2.start N vs) H) : Cal P w K mg base CX0 (k + 1) x (x0 :: ps) sp := by
  obtain ⟨f, fd, g, F⟩ := S
  refine ⟨f, fd, g, F.kp, F.bindsN bn, ?_⟩
  obtain ⟨oc, od, dV, kV, doc, pm, an, cdv, ct, osl, rfl, lk, hcd, _, _⟩ := F.ex
  exact fn_ofTC lk hcd sc h0 len fun A outer s H vs Q E hr hsp => by
    obtain ⟨t, h1, h2⟩ := hbody f cdv A outer s H vs Q E hr hsp
    exact ⟨t, h1.run, h2⟩
end
/-! ### the law's own def -/
section
variable {P : Program} {w : World} {K : PySem.W.Frag} {mg : Str → Option Value} {base : Heap} {x x0 : Str} {st : Stmt} {N ps : List Str} {k : Nat} {sp : Sp} {f : Addr} {fd : FuncData}
theorem lawT (F : FunD K x x (defArgs st) (defBody st) (defScope st) [] [] f fd) (sc : FnScope N (x0 :: ps) (defScope st)) (h0 : (defScope st).names.lookup x0 = some .local) (len : ∀ vs H Q E, sp vs H Q E → vs.length = (x0 :: ps).length)
    (hbody : ∀ (f : Addr) (cdv : Value) (A : Around) (outer : List Env) (s : Shared) (H : Hp) (vs : List V) (Q : VK) (E : XK), Room k (A.deeper (envOfC x (defScope st) s.heap.objs.size f cdv)) → sp vs H Q E →
      ∃ t, PZ (cxOf CX0 P w K mg base N x (defScope st) f cdv A outer s H E) (defBody st) t ∧ t { nx := fun _ H' => Q .non H', rt := Q } (L2.start N vs) H) : FnOk P w K mg base CX0 (k + 1) f fd (x0 :: ps) sp := by
  obtain ⟨oc, od, dV, kV, doc, pm, an, cdv, ct, osl, rfl, lk, hcd, _, _⟩ := F.ex
  exact fn_ofTC lk hcd sc h0 len fun A outer s H vs Q E hr hsp => by
    obtain ⟨t, h1, h2⟩ := hbody f cdv A outer s H vs Q E hr hsp
    exact ⟨t, h1.run, h2⟩
theorem law0 (F : FunD K x x (defArgs st) (defBody st) (defScope st) [] [] f fd) (sc : FnScope N ps (defScope st)) (len : ∀ vs H Q E, sp vs H Q E → vs.length = ps.length)
    (hbody : ∀ (f : Addr) (cdv : Value) (A : Around) (outer : List Env) (s : Shared) (H : Hp) (vs : List V) (Q : VK) (E : XK), Room k (A.deeper (envOfC x (defScope st) s.heap.objs.size f cdv)) → sp vs H Q E →
      ∃ t, PSs (cxOf CX0 P w K mg base N x (defScope st) f cdv A outer s H E).nox (defBody st) t ∧ t { nx := fun _ H' => Q .non H', rt := Q } (L2.start N vs) H) : FnOk P w K mg base CX0 (k + 1) f fd ps sp := by
  refine F.ok sc len fun cdv A outer s H vs Q E hr hsp => ?_
  obtain ⟨t, h, q⟩ := hbody f cdv A outer s H vs Q E hr hsp
  exact ⟨t, h.nox, q⟩
theorem cst_int {i : Int} (h : ∃ t, mg x = some (.int i t)) : Cst mg x (.int i) := by
  obtain ⟨t, h⟩ := h
  exact ⟨_, h, ⟨t, rfl⟩⟩
theorem cst_ref {a : Addr} (h : mg x = some (.ref a)) : Cst mg x (.ref a) := ⟨_, h, rfl⟩
theorem cst_str {z : Str} (h : ∃ t, mg x = some (.str z t)) : Cst mg x (.str z) := by
  obtain ⟨t, h⟩ := h
  exact ⟨_, h, ⟨t, rfl⟩⟩
end
end Fx
/-! for i, x in enumerate(t), t a tuple; a list or a tuple -/
namespace Fx
open PySem PySem.Spec PyProof.Rows L2
open AutoSeq1 (wpAny_loadPart')
theorem enum_newT (l : Addr) (items : Array Value) (n : Nat) (dct : Option Addr) (sl : Array (Option Value)) :
    Meets (Builtin.«enumerate.__new__» ⟨[.type "enumerate", .ref l], []⟩) (fun _ R s => s.heap.get? l = some { cls := .type "tuple", dict := dct, data := .seq items n, slots := sl } ∧
      R (.ok (.ret (.ref (s.heap.push { cls := .type "tuple_iterator", data := .fields #[.ref l, .int 0 0] }).objs.size)))
        { s with heap := (s.heap.push { cls := .type "tuple_iterator", data := .fields #[.ref l, .int 0 0] }).push { cls := .type "enumerate", data := .fields #[.none, .bool false, .ref s.heap.objs.size, rawInt 0, .none, .none] } }) :=
  .of_wp fun prog w A R s h => by
    obtain ⟨hp, g, d, tk, os⟩ := s
    obtain ⟨hl, h⟩ := h
    have hsub := sub_enumerate
    have hL : Heap.IsTuple (Shared.heap ⟨hp, g, d, tk, os⟩) l items := ⟨_, hl, rfl, n, rfl⟩
    wp_walk using wpAny_loadPart' hl
    refine wpAny_stack_any fun st => wpAny_pure ?_
    split
    · rename_i c _ _ _ _ _
      cases (c == Value.type "enumerate")
      · wp_walk using wpAny_loadPart' hl, wpAny_pyIter_tuple hL
        exact ⟨_, rfl, h⟩
      · wp_walk using wpAny_loadPart' hl, wpAny_pyIter_tuple hL
        exact ⟨_, rfl, h⟩
    · wp_walk using wpAny_loadPart' hl, wpAny_pyIter_tuple hL
      exact ⟨_, rfl, h⟩
theorem call_enumT {prog : Program} {w : World} {A : Around} {E : Value → Shared → Prop} {s : Shared} {l : Addr} {items : Array Value} {Q : Value → Shared → Prop} (hL : s.heap.IsTuple l items)
    (h : ∀ h', IsEnum h' (s.heap.objs.size + 1) s.heap.objs.size 0 .none → h'.IsTupleIter s.heap.objs.size l 0 → h'.objs.size = s.heap.objs.size + 2 →
      (∀ b o, s.heap.get? b = some o → h'.get? b = some o) → Q (.ref (s.heap.objs.size + 1)) { s with heap := h' }) :
    wpAny (model prog w) A (call (.type "enumerate") [.ref l]) Q E s := by
  obtain ⟨⟨c, dct, dt, sl⟩, hl, hc, n, hd⟩ := hL
  replace hc : c = .type "tuple" := hc
  replace hd : dt = .seq items n := hd
  subst hc hd
  refine callType_new F.called_enumerate (by decide) (F.typeCall_enumerate_1 _) (F.newCall_enumerate_1 _) (fun obj => F.args_object_init_2 obj _) F.entry_enumerate_new
    (enum_newT l items n dct sl) ⟨hl, ?_⟩
  have hz : (s.heap.push { cls := .type "tuple_iterator", data := .fields #[.ref l, .int 0 0] }).objs.size = s.heap.objs.size + 1 := Heap.size_push ..
  show _ ∧ _
  rw [hz]
  have he : IsEnum ((s.heap.push { cls := .type "tuple_iterator", data := .fields #[.ref l, .int 0 0] }).push
      { cls := .type "enumerate", data := .fields #[.none, .bool false, .ref s.heap.objs.size, rawInt 0, .none, .none] }) (s.heap.objs.size + 1) s.heap.objs.size 0 .none := by
    have := Heap.get?_push_size (s.heap.push { cls := .type "tuple_iterator", data := .fields #[.ref l, .int 0 0] })
      (o := { cls := .type "enumerate", data := .fields #[.none, .bool false, .ref s.heap.objs.size, rawInt 0, .none, .none] }) rfl
    rw [hz] at this
    exact this
  exact ⟨⟨_, he, rfl⟩, h _ he ⟨_, Heap.get?_push_of_some _ (Heap.get?_push_size _ rfl), rfl, rfl⟩ (by rw [Heap.size_push, hz]) fun b o x => Heap.get?_push_of_some _ (Heap.get?_push_of_some _ x)⟩
def IteT (K : PySem.W.Frag) (a : Addr) : It :=
  ⟨fun i H => ∃ (xs : List V) (x : V), SqT K H a xs ∧ xs[i]? = some x, fun i H v H' => ∃ T x, v = .ref T ∧ H T = none ∧ H' = upd H T (.tup [.int (i : Nat), x]) ∧ ∀ xs, SqT K H a xs → xs[i]? = some x, fun i H => ∃ xs : List V, SqT K H a xs ∧ xs.length = i⟩
theorem turn_enumT {P : Program} {w : World} {K : PySem.W.Frag} {elts : List Expr} {kk : Nat} {tpos : Pos} (a e it : Addr) :
    Turn P w K (.Tuple elts kk tpos) (IteT K a) [e, it] e (fun i h => (∃ old, IsEnum h e it ((i : Nat) : Int) old) ∧ h.IsTupleIter it a i ∧ e ≠ it ∧ a ≠ e ∧ a ≠ it) where
  mem := by simp
  obj := fun i h st b hb => by
    obtain ⟨⟨old, he⟩, ⟨o, ho, hc, hd⟩, _⟩ := st
    have e' : b = e ∨ b = it := by simpa using hb
    rcases e' with z | z
    · rw [z]
      exact ⟨_, he, fun v q => nomatch q⟩
    · rw [z]
      exact ⟨o, ho, fun v q => by rw [hd] at q; cases q⟩
  keep := fun i h h' st k => let ⟨⟨old, he⟩, ⟨o, ho, hr⟩, hne⟩ := st; ⟨⟨old, k e (by simp) _ he⟩, ⟨o, k it (by simp) o ho, hr⟩, hne⟩
  item := by
    intro X hP hw hK hc i pins s σ H E I hf st hg
    subst hP hw hK
    obtain ⟨⟨old, he⟩, hit, hne, hae, hai⟩ := st
    obtain ⟨xs, x, hq, hx⟩ := hg
    obtain ⟨its, rv, p, hz⟩ := I.tuple hq
    obtain ⟨u0, hu0, ru⟩ := rv.get hx
    have hel : e < s.heap.objs.size := Heap.lt_size he
    have hil : it < s.heap.objs.size := by obtain ⟨_, q, _⟩ := hit; exact Heap.lt_size q
    have D := Draws.tuple (prog := X.prog) (w := X.w) (A := X.A.in1) (show X.A.in1.handled = none from I.ok.hd hc) it a hai its.toArray
    have hin : i < its.toArray.size := by
      have := (List.getElem?_eq_some_iff.mp hu0).1
      simpa using this
    refine wpAny_pyNext_enum_itemD D he ⟨hit, p⟩ hin hne (by simp [hne, Ne.symm hae]) fun u h' tk hu ho hit' hT hsz hk => ?_
    have eu : u = u0 := by
      have h1 : its[i]? = some u := by simpa using hu
      rw [hu0] at h1
      exact (Option.some.inj h1).symm
    subst eu
    refine ⟨_, rfl, wpAny_letOwnedTupleGo_enum (s := { s with heap := h', toks := tk + 1 }) ho fun h'' he' sb => ?_⟩
    have hT2 : h''.get? s.heap.objs.size = some { cls := .type "tuple", data := .seq #[.int i tk, u] } := (sb.2 _ (Nat.ne_of_gt hel)).trans hT
    have new : ObjOk X.prog X.w (upd H s.heap.objs.size (.tup [.int (i : Nat), x])) h'' s.heap.objs.size (.tup [.int (i : Nat), x]) :=
      ⟨by show 2 ≤ sizeLine; decide, [.int i tk, u], .cons ⟨_, rfl⟩ (.cons ru .nil), ⟨_, hT2, rfl, _, rfl⟩⟩
    have I1 : Inv X pins σ (upd H s.heap.objs.size (.tup [.int (i : Nat), x])) { s with heap := h'', toks := tk + 1 } :=
      I.turnedNew (ch := [e, it]) (fun b ob hb q => (sb.2 b (fun z => hb (by simp [z]))).trans (hk b ob (fun z => hb (by simp [z])) (fun z => hb (by simp [z])) q)) hf (Nat.le_refl _) new
    refine ⟨.ref s.heap.objs.size, _, I1, rfl, ⟨_, x, rfl, I.hok.fresh (Nat.le_refl _), rfl, fun ys hy => by rw [I.tuple_inj hy hq]; exact hx⟩, ⟨⟨u, ?_⟩, ?_, hne, hae, hai⟩, fun b hb => ?_⟩
    · have e1 : ((i + 1 : Nat) : Int) = (i : Int) + 1 := by omega
      rw [e1]
      exact he'
    · obtain ⟨⟨o, ho2, hr⟩, _⟩ := hit'
      exact ⟨o, (sb.2 it (Ne.symm hne)).trans ho2, hr⟩
    · have hb' : b < s.heap.objs.size := by
        have e' : b = e ∨ b = it := by simpa using hb
        rcases e' with z | z
        · rw [z]; exact hel
        · rw [z]; exact hil
      rw [upd_ne (Nat.ne_of_lt hb')]
      exact (hf b hb).1
  done := by
    intro X hP hw hK hc i pins s σ H E I hf st hg
    subst hP hw hK
    obtain ⟨⟨old, he⟩, hit, hne, hae, hai⟩ := st
    obtain ⟨xs, hq, hx⟩ := hg
    obtain ⟨its, rv, p, hz⟩ := I.tuple hq
    obtain ⟨f0, f1, f2, f3, f4, f5⟩ := hf it (by simp)
    have hl := rv.length
    have D := Draws.tuple (prog := X.prog) (w := X.w) (A := X.A.in1) (show X.A.in1.handled = none from I.ok.hd hc) it a hai its.toArray
    have hi : i = its.toArray.size := by
      rw [List.size_toArray]
      omega
    subst hi
    exact wpAny_pyNext_enum_endD D he ⟨hit, p⟩ fun h' eb => ⟨rfl, I.turned (t' := s.toks) (fun b o hb q => eb b o hb q) f0 f1 f3 f4 f5⟩
  self := fun A i s Q E st h => let ⟨⟨_, he⟩, _⟩ := st; wpAny_pyIter_enum he h
def iEnumT (K : PySem.W.Frag) (ta : TA) : TI := fun σ H R => ta σ H fun vs H1 => ∃ a xs, vs = [.ref a] ∧ SqT K H1 a xs ∧ R (IteT K a) H1
section
variable {X : Cx} {e : Expr} {ta : TA} {p pos tpos : Pos} {elts : List Expr} {kk : Nat}
theorem pi_enumT (hg : Gl X "enumerate") (hm : X.mg "enumerate" = none) (ha : PA X [e] ta) (hs : starEach [e] X.env = [(false, eval e X.env)] := by rfl) :
    PI X (.Tuple elts kk tpos) (.Call (.Name "enumerate" p) [e] [] pos) (iEnumT X.K ta) := by
  refine ⟨fun pins s σ H R I h => ?_⟩
  refine Call_ (ld_blt I hg hm boot_enumerate (PyProof.Rows.callWith_type1 (thn (ha.run pos pins s σ H _ I h) fun us s1 ⟨vs, H1, I1, r1, q1⟩ => ?_) hs rfl))
  obtain ⟨a, xs, ex, hq, q⟩ := q1
  subst ex
  cases r1 with
  | cons r rr =>
    cases rr
    cases r
    obtain ⟨its, rv, p', hz⟩ := I1.tuple hq
    have hla : a < s1.heap.objs.size := by
      obtain ⟨o, ho, _⟩ := p'
      exact Heap.lt_size ho
    refine call_enumT p' fun h' he hit hsz hk => wpAny_pyIter_enum he ?_
    have I2 : Inv X pins σ H1 { s1 with heap := h' } := I1.kept (t' := s1.toks) hk
    refine ⟨s1.heap.objs.size + 1, [s1.heap.objs.size + 1, s1.heap.objs.size], _, _, H1, rfl, I2, turn_enumT a (s1.heap.objs.size + 1) s1.heap.objs.size, ⟨⟨.none, he⟩, hit, Nat.succ_ne_self _, Nat.ne_of_lt (Nat.lt_succ_of_lt hla), Nat.ne_of_lt hla⟩, fun b hb => ?_, q⟩
    have e' : b = s1.heap.objs.size + 1 ∨ b = s1.heap.objs.size := by simpa using hb
    have hle : s1.heap.objs.size ≤ b := by
      rcases e' with z | z
      · rw [z]; exact Nat.le_add_right _ _
      · rw [z]; exact Nat.le_refl _
    exact I1.fpOk hle (I1.hok.fresh hle)
/-- a list or a tuple -/
def iEnumQ (K : PySem.W.Frag) (ta : TA) : TI := fun σ H R => iEnum K ta σ H R ∨ iEnumT K ta σ H R
theorem pi_enumQ (hg : Gl X "enumerate") (hm : X.mg "enumerate" = none) (ha : PA X [e] ta) (hs : starEach [e] X.env = [(false, eval e X.env)] := by rfl) :
    PI X (.Tuple elts kk tpos) (.Call (.Name "enumerate" p) [e] [] pos) (iEnumQ X.K ta) := by
  refine ⟨fun pins s σ H R I h => ?_⟩
  rcases h with h | h
  · exact (pi_enum hg hm ha hs).run pins s σ H R I h
  · exact (pi_enumT hg hm ha hs).run pins s σ H R I h
def iQ (K : PySem.W.Frag) (tl : TE) : TI := fun σ H R => iList K tl σ H R ∨ iTup K tl σ H R
theorem pi_Q {tg l : Expr} {tl : TE} (hl : PE X l tl) : PI X tg l (iQ X.K tl) := by
  refine ⟨fun pins s σ H R I h => ?_⟩
  rcases h with h | h
  · exact (pi_list hl).run pins s σ H R I h
  · exact (pi_tup hl).run pins s σ H R I h
end
/-- a list or a tuple that stands in the tracked heap -/
def Sq (H : Hp) (p : Addr) (xs : List V) : Prop := H p = some (.lst xs) ∨ H p = some (.tup xs)
theorem Sq.same {H H' : Hp} {p : Addr} {xs : List V} (h : Sq H p xs) (s : Same H H') : Sq H' p xs := by
  rcases h with h | h
  · exact .inl (s _ _ h)
  · exact .inr (s _ _ h)
section
variable {X : Cx}
def rIxQ : R2 := fun x y H Q => ∃ p i xs, x = .ref p ∧ y = .int i ∧ Sq H p xs ∧ ∃ v, atI xs i = some v ∧ Q v H
theorem ix_Q : IxR X rIxQ := by
  have h1 : IxR X rIxLt := ix_L
  have h2 : IxR X rIxTt := ix_T
  intro ve se pins s σ H x y v u Q I rx ry h hs
  obtain ⟨p, i, xs, e1, e2, hq, w, hw, q⟩ := h
  rcases hq with hq | hq
  · exact h1 ve se pins s σ H x y v u Q I rx ry ⟨p, i, xs, e1, e2, hq, w, hw, q⟩ hs
  · exact h2 ve se pins s σ H x y v u Q I rx ry ⟨p, i, xs, e1, e2, hq, w, hw, q⟩ hs
def rLenQ : List V → Hp → VK → Prop := fun vs H Q => ∃ p xs, vs = [.ref p] ∧ Sq H p xs ∧ Q (.int (xs.length : Nat)) H
theorem len_Q : CallR X (.builtin "len") rLenQ := CallR.imp call_len_seq fun vs H Q ⟨p, ys, e, h, q⟩ => ⟨p, ys, e, h.elim (fun h => .inl (.inl (.inl h))) (fun h => .inr (.inl (.inl h))), q⟩
def rTupQ : List V → Hp → VK → Prop := fun vs H Q => ∃ p xs, vs = [.ref p] ∧ Sq H p xs ∧ ∀ l H', Same H H' → H' l = some (.tup xs) → Q (.ref l) H'
theorem tup_Q : CallR X (.type "tuple") rTupQ := CallR.imp call_tuple_of fun vs H Q ⟨p, ys, e, h, q⟩ => ⟨p, ys, e, h.elim (fun h => .inl ⟨.inl (.inl h), fun l nl => q l _ (same_new nl) upd_same⟩) (fun h => .inr ⟨.inl (.inl h), q p H (Same.refl H) h⟩)⟩
def rTupL : List V → Hp → VK → Prop := fun vs H Q => ∃ p xs, vs = [.ref p] ∧ H p = some (.lst xs) ∧ ∀ l, H l = none → Q (.ref l) (upd H l (.tup xs))
theorem tup_L : CallR X (.type "tuple") rTupL := CallR.imp call_tuple_of fun vs H Q ⟨p, ys, e, h, q⟩ => ⟨p, ys, e, .inl ⟨.inl (.inl h), q⟩⟩
end
/-- the loop over enumerate(a list or a tuple) -/
theorem for_enumQ {K : PySem.W.Frag} {ta : TA} {a : Addr} {xs : List V} {g : TG} {tb : TS} {D : Ends} {σ : L2.St} {H : Hp} (hta : ∀ Q : List V → Hp → Prop, Q [.ref a] H → ta σ H Q) (hq : Sq H a xs) (Pv : Nat → L2.St → Hp → Prop) (h0 : Pv 0 σ H)
    (hl : ∀ i σ H', Pv i σ H' → ∀ o, H a = some o → H' a = some o)
    (hs : ∀ i x T σ H, xs[i]? = some x → Pv i σ H → H T = none → g (.ref T) σ (upd H T (.tup [.int (i : Nat), x])) fun σ' H' => tb { D with nx := Pv (i + 1), ct := Pv (i + 1), bk := D.nx } σ' H')
    (hd : ∀ σ H, Pv xs.length σ H → D.nx σ H) : tFor (iEnumQ K ta) g tb D σ H := by
  rcases hq with hq | hq
  · refine .inl (hta _ ⟨a, xs, rfl, .inl (.inl hq), ?_⟩)
    refine ⟨fun i m σ H' => m = xs.length - i ∧ i ≤ xs.length ∧ Pv i σ H', ⟨_, rfl, Nat.zero_le _, h0⟩, ?_⟩
    rintro i m σ H' ⟨rfl, hi, p⟩
    have hk : SqL K H' a xs := .inl (.inl (hl i σ H' p _ hq))
    by_cases hlt : i < xs.length
    · refine .inr ⟨⟨xs, xs[i], hk, by simp [hlt]⟩, fun σ' H' => Pv (i + 1) σ' H', fun σ' H' q => ⟨xs.length - (i + 1), by omega, rfl, hlt, q⟩, fun x H2 hy => ?_⟩
      obtain ⟨T, c, rfl, nT, rfl, hc⟩ := hy
      exact hs i c T σ H' (hc xs hk) p nT
    · have ei : i = xs.length := by omega
      subst ei
      exact .inl ⟨⟨xs, hk, Nat.le_refl _⟩, hd σ H' p⟩
  · refine .inr (hta _ ⟨a, xs, rfl, .inl (.inl hq), ?_⟩)
    refine ⟨fun i m σ H' => m = xs.length - i ∧ i ≤ xs.length ∧ Pv i σ H', ⟨_, rfl, Nat.zero_le _, h0⟩, ?_⟩
    rintro i m σ H' ⟨rfl, hi, p⟩
    have hk : SqT K H' a xs := .inl (.inl (hl i σ H' p _ hq))
    by_cases hlt : i < xs.length
    · refine .inr ⟨⟨xs, xs[i], hk, by simp [hlt]⟩, fun σ' H' => Pv (i + 1) σ' H', fun σ' H' q => ⟨xs.length - (i + 1), by omega, rfl, hlt, q⟩, fun x H2 hy => ?_⟩
      obtain ⟨T, c, rfl, nT, rfl, hc⟩ := hy
      exact hs i c T σ H' (hc xs hk) p nT
    · have ei : i = xs.length := by omega
      subst ei
      exact .inl ⟨⟨xs, hk, rfl⟩, hd σ H' p⟩
section
variable {X : Cx}
theorem shaped_flatT {xs : List V} (hx : xs.all isF = true) : SeqAt.shaped (.tuple (xs.map datV)) = true := by
  obtain ⟨h1, h2⟩ := lay_flat hx
  simp [SeqAt.shaped, PyData.canLay0, PyData.depth, h1, h2]
def rNeL : R2 := fun x y H Q => ∃ p q xs ys, x = .ref p ∧ y = .ref q ∧ H p = some (.lst xs) ∧ H q = some (.lst ys) ∧ xs.all isF = true ∧ ys.all isF = true ∧ Q (.bl (!decide (xs = ys))) H
def rNeT : R2 := fun x y H Q => ∃ p q xs ys, x = .ref p ∧ y = .ref q ∧ H p = some (.tup xs) ∧ H q = some (.tup ys) ∧ xs.all isF = true ∧ ys.all isF = true ∧ Q (.bl (!decide (xs = ys))) H
def rEqT : R2 := fun x y H Q => ∃ p q xs ys, x = .ref p ∧ y = .ref q ∧ H p = some (.tup xs) ∧ H q = some (.tup ys) ∧ xs.all isF = true ∧ ys.all isF = true ∧ Q (.bl (decide (xs = ys))) H
theorem ne_LL (hu : X.A.units + 64 < cLine) : OpR X (compareOp .NotEq) rNeL := by
  intro pins s σ H x y v u Q I rx ry h
  obtain ⟨p, q, xs, ys, rfl, rfl, hp, hq, fx, fy, k⟩ := h
  refine op_neD hu pins s σ H _ _ v u Q I rx ry ⟨.list (xs.map datV), .list (ys.map datV), .lst (.inl (.inl hp)) (dpAll_dat fx), .lst (.inl (.inl hq)) (dpAll_dat fy), shaped_flat fx, shaped_flat fy, ?_⟩
  rw [PyData.eqv, eqvAll_dat fx fy]
  exact k
theorem ne_TT (hu : X.A.units + 64 < cLine) : OpR X (compareOp .NotEq) rNeT := by
  intro pins s σ H x y v u Q I rx ry h
  obtain ⟨p, q, xs, ys, rfl, rfl, hp, hq, fx, fy, k⟩ := h
  refine op_neD hu pins s σ H _ _ v u Q I rx ry ⟨.tuple (xs.map datV), .tuple (ys.map datV), .tup (.inl (.inl hp)) (dpAll_dat fx), .tup (.inl (.inl hq)) (dpAll_dat fy), shaped_flatT fx, shaped_flatT fy, ?_⟩
  rw [PyData.eqv, eqvAll_dat fx fy]
  exact k
theorem eq_TT (hu : X.A.units + 64 < cLine) : OpR X (compareOp .Eq) rEqT := by
  intro pins s σ H x y v u Q I rx ry h
  obtain ⟨p, q, xs, ys, rfl, rfl, hp, hq, fx, fy, k⟩ := h
  refine op_eqD hu pins s σ H _ _ v u Q I rx ry ⟨.tuple (xs.map datV), .tuple (ys.map datV), .tup (.inl (.inl hp)) (dpAll_dat fx), .tup (.inl (.inl hq)) (dpAll_dat fy), shaped_flatT fx, shaped_flatT fy, ?_⟩
  rw [PyData.eqv, eqvAll_dat fx fy]
  exact k
theorem all_int (ns : List Int) : (ns.map V.int).all isF = true := by simp [isF]
theorem map_int_inj {a b : List Int} : a.map V.int = b.map V.int ↔ a = b := by
  constructor
  · intro h
    induction a generalizing b with
    | nil => cases b with
      | nil => rfl
      | cons y b => cases h
    | cons x a ih => cases b with
      | nil => cases h
      | cons y b =>
        simp only [List.map_cons, List.cons.injEq, V.int.injEq] at h
        rw [h.1, ih h.2]
  · intro h
    rw [h]
/-- len of a list or a tuple -/
def rMin2 : List V → Hp → VK → Prop := fun xs H Q => ∃ i j, xs = [.int i, .int j] ∧ Q (.int (if j < i then j else i)) H
theorem min_2 (hc : X.calm = true) : CallR X (.builtin "min") rMin2 := call_min2 hc
def rAnd255 : R2 := fun x y H Q => ∃ i : Int, x = .int i ∧ y = .int 255 ∧ Q (.int (i % 256)) H
theorem and_255 {X : Cx} : OpR X (binaryOp .BitAnd) rAnd255 := by
  intro pins s σ H x y v u Q I rx ry h
  obtain ⟨i, rfl, rfl, q⟩ := h
  exact op_andM pins s σ H _ _ v u Q I rx ry ⟨i, 8, rfl, rfl, q⟩
def rNonIs : R2 := fun x y H Q => y = .non ∧ Q (.bl (decide (x = .non))) H
theorem op_isNon : OpR X (compareOp .Is) rNonIs := op_isN
def rNonNot : R2 := fun x y H Q => y = .non ∧ Q (.bl (!decide (x = .non))) H
theorem op_notNon : OpR X (compareOp .IsNot) rNonNot := op_notN
def rIns : V → List V → Hp → VK → Prop := fun x vs H Q => ∃ (l : Addr) (xs : List V) (i : Int) (y : V), x = .ref l ∧ vs = [.int i, y] ∧ H l = some (.lst xs) ∧ xs.length < sizeLine ∧ 0 ≤ i ∧ i < 2 ^ 63 ∧ Q .non (upd H l (.lst (xs.take i.toNat ++ [y] ++ xs.drop i.toNat)))
theorem mt_ins : MtR X "list.insert" rIns := mt_insert
open AutoSeq1 in
theorem extend_tuple (l : Addr) (items : Array Value) (n : Nat) (b : Addr) (items2 : Array Value) (n2 : Nat) (dct : Option Addr) (sl : Array (Option Value)) (hs0 : ¬(!items.isEmpty && Builtin.List.listTooLong (items.size + items2.size)) = true) (hs1 : items.size ≤ sizeLine) (hs2 : items.size + items2.size ≤ sizeLine + 1) :
    Meets (Builtin.«list.extend» ⟨[.ref l, .ref b], []⟩) (fun _ R s => s.heap.get? l = some { cls := .type "list", dict := none, data := .seq items n, slots := #[] } ∧ s.heap.get? b = some { cls := .type "tuple", dict := dct, data := .seq items2 n2, slots := sl } ∧ R (.ok (.ret Value.none)) { s with heap := s.heap.update l (Obj.mapSeq fun x => x ++ items2), toks := s.toks }) :=
  .of_wp fun prog w A R s h => by
    obtain ⟨hp, g, d, tk, os⟩ := s
    obtain ⟨hl, hb, h⟩ := h
    have f1 := idx_int
    have f2 := AutoSeq1.sub_tuple_tuple
    have f3 := AutoSeq1.sub_list_list
    have f4 := AutoSeq1.sub_tuple_list
    have f5 := AutoSeq1.sub_list_tuple
    have hz' : (items ++ items2).size ≤ sizeLine + 1 := by rw [Array.size_append]; exact hs2
    wp_walk using (wpAny_updateSeq hl rfl (hz := hs1) (_hz' := hz')), wpAny_loadPart' hl, wpAny_loadPart' hb
    exact ⟨_, rfl, h⟩
def rExtQ : V → List V → Hp → VK → Prop := fun x vs H Q => ∃ l b xs zs, x = .ref l ∧ vs = [.ref b] ∧ H l = some (.lst xs) ∧ Sq H b zs ∧ xs.length + zs.length ≤ sizeLine ∧ Q .non (upd H l (.lst (xs ++ zs)))
theorem mt_extQ : MtM X "list.extend" rExtQ := by
  intro pins s σ H x vs v us Q I rx rv h
  obtain ⟨l, b, xs, zs, rfl, rfl, hH, hB, hz, q⟩ := h
  rcases hB with hB | hB
  · exact mt_extend pins s σ H _ _ v us Q I rx rv ⟨l, b, xs, zs, rfl, rfl, hH, hB, hz, q⟩
  cases rx
  obtain ⟨u, rfl, ru⟩ := rv.one
  cases ru
  obtain ⟨z, its, n, r, hl, e⟩ := I.lstM hH
  obtain ⟨its2, r2, ⟨⟨c2, d2, dt2, sl2⟩, e2, hc2, n2, hd2⟩, hz2⟩ := I.tuple (.inl (.inl hB))
  have hl2 := r2.length
  replace hc2 : c2 = .type "tuple" := hc2
  replace hd2 : dt2 = .seq its2.toArray n2 := hd2
  subst hc2 hd2
  have hsz : its.toArray.size + its2.toArray.size ≤ sizeLine := by rw [List.size_toArray, List.size_toArray]; omega
  have hlong : ¬ (!its.toArray.isEmpty && Builtin.List.listTooLong (its.toArray.size + its2.toArray.size)) = true := by
    rw [notLongL hsz, Bool.and_false]
    exact Bool.false_ne_true
  refine call_meets F.slot_list_extend ⟨_, e, rfl⟩ F.entry_list_extend (F.args_list_extend_2 _ _)
    (extend_tuple l its.toArray n b its2.toArray n2 d2 sl2 hlong (by rw [List.size_toArray]; omega) (by omega)) ⟨e, e2, ?_⟩
  refine ⟨.non, _, I.lset (its' := its ++ its2) hH e (by simp) (r.append r2) ?_, rfl, q⟩
  rw [List.length_append]
  omega
def rSlQ : V → Option Int → Option Int → Hp → VK → Prop := fun x lo hi H Q => ∃ a xs, x = .ref a ∧ Sq H a xs ∧ ∀ p H', Same H H' → Sq H' p (cutV xs lo hi) → Q (.ref p) H'
theorem sl_Q : SlR X rSlQ := by
  intro pins s σ H x v vl vu lo hi sl Q I rx hs pl pu h
  obtain ⟨a, xs, rfl, hx, q⟩ := h
  rcases hx with hx | hx
  · exact sl_L pins s σ H _ v vl vu lo hi sl Q I rx hs pl pu ⟨a, xs, rfl, hx, fun p np => q p _ (same_new np) (.inl upd_same)⟩
  · refine sl_tupA pins s σ H _ v vl vu lo hi sl Q I rx hs pl pu ⟨a, xs, rfl, .inl (.inl hx), fun hw => ?_, fun _ p np => q p _ (same_new np) (.inr upd_same)⟩
    have e : cutV xs lo hi = xs := by
      unfold cutV
      rw [hw.1, hw.2]
      simp
    exact q a H (Same.refl H) (by rw [e]; exact .inr hx)
end
end Fx
/-! Own classes: attribute targets, methods by promise; defs that know that no repr is under way (FnG) -/
namespace Fx
open PySem PySem.Spec PyProof.Rows L2
section
variable {X : Cx} {o : Expr} {to : TE} {f : Str} {pos : Pos}
/-- .. , o.f, .. = value -/
def gFld (K : PySem.W.Frag) (to : TE) (f : Str) : TG := fun v σ H Q => to σ H fun x H1 => ∃ a C dx fs, x = .ref a ∧ H1 a = some (.ins C dx fs) ∧ Cls K C ∧ NoAttr K C f ∧ fs.length < 1000 ∧ Q σ (upd H1 a (.ins C dx (putF f v fs)))
theorem pg_fld (ho : PE X o to) : PG X (.Attribute o f pos) (gFld X.K to f) := by
  refine ⟨fun pins s σ H v u Q I r h => ?_⟩
  rw [assign_Attribute]
  refine wpAny_bind (wpAny_holding (thn (ho.run pins s σ H _ I h) fun ov s1 ⟨x, H1, I1, r1, a, C, dx, fs, ex, ea, c, n, l, q⟩ => ?_))
  subst ex
  obtain rfl : ov = Value.ref a := r1
  refine wpAny_bind (wpAny_standAt (wpAny_bind (wpAny_holding (setattr_ok I1 ea c n l r fun s3 I3 => ?_))))
  exact wpAny_release ⟨σ, _, I3, q⟩
end
/-! ### methods, makers -/
structure CalM (P : Program) (w : World) (K : PySem.W.Frag) (mg : Str → Option Value) (base : Heap) (CX : CXT) (k : Nat) (C : Addr) (m : Str) (ps : List Str) (sp : Sp) : Prop where
  ex : ∃ f fd, Meth K C m f ∧ Binds K fd ps [] ∧ FnOk P w K mg base CX k f fd ps sp
structure CalI (P : Program) (w : World) (K : PySem.W.Frag) (mg : Str → Option Value) (base : Heap) (CX : CXT) (k : Nat) (C : Addr) (ps : List Str) (sp : Sp) : Prop where
  ex : ∃ f fd, Mk K C f ∧ Binds K fd ps [] ∧ FnOk P w K mg base CX k f fd ps sp
section
variable {X : Cx} {x : Str} {C : Addr} {ps : List Str} {sp : Sp} {k : Nat} {CX : CXT} {E : XK} {e : Expr} {es : List Expr} {t : TA} {p pos : Pos}
/-- C(e, ..) -/
theorem pe_mk (M : CalI X.prog X.w X.K X.mg X.base CX k C ps sp) (hr : Room (k + 1) X.A) (hm : X.mg x = some (.ref C)) (hx : Passes CX X E) (ha : PA X (e :: es) t) (hg : Gl X x := by rfl) (hdb : (x == ("__debug__" : Str)) = false := by decide)
    (hs : (e :: es).all nostar = true := by rfl) : PE X (.Call (.Name x p) (e :: es) [] pos) (tMake C sp [] E t) := by
  obtain ⟨f, fd, m, b, F⟩ := M.ex
  simp only [List.all_cons, Bool.and_eq_true] at hs
  exact pe_make m F hr hg hm b .nil hx ha hdb (star_ok hs.1) (back_ok hs.2)
end
/-! ### a method's body -/
abbrev BindQ (x q : Str) (st : Stmt) (ps : List Str) : Prop := ∀ (kV doc pm : Value) (an : Option Addr) (cdv ct : Value) (us : List Value), us.length = ps.length → bindArgs (PySem.W.fnOf x q (defArgs st) (defBody st) (defScope st) .none kV doc pm an cdv ct) ⟨us, []⟩ = pure (ps.zip us)
section
variable {P : Program} {w : World} {K : PySem.W.Frag} {mg : Str → Option Value} {base : Heap} {x qual : Str} {st : Stmt} {N ps : List Str} {k : Nat} {sp : Sp} {f : Addr} {fd : FuncData}
theorem ok0 (F : FunD K x qual (defArgs st) (defBody st) (defScope st) [] [] f fd) (sc : FnScope N ps (defScope st)) (len : ∀ vs H Q E, sp vs H Q E → vs.length = ps.length)
    (hbody : ∀ (f : Addr) (cdv : Value) (A : Around) (outer : List Env) (s : Shared) (H : Hp) (vs : List V) (Q : VK) (E : XK), Room k (A.deeper (envOfC qual (defScope st) s.heap.objs.size f cdv)) → sp vs H Q E →
      ∃ t, PSs (cxOf CX0 P w K mg base N qual (defScope st) f cdv A outer s H E).nox (defBody st) t ∧ t { nx := fun _ H' => Q .non H', rt := Q } (L2.start N vs) H) : FnOk P w K mg base CX0 (k + 1) f fd ps sp := by
  refine F.ok sc len fun cdv A outer s H vs Q E hr hsp => ?_
  obtain ⟨t, h, q⟩ := hbody f cdv A outer s H vs Q E hr hsp
  exact ⟨t, h.nox, q⟩
theorem okX (F : FunD K x qual (defArgs st) (defBody st) (defScope st) [] [] f fd) (sc : FnScope N ps (defScope st)) (len : ∀ vs H Q E, sp vs H Q E → vs.length = ps.length)
    (hbody : ∀ (f : Addr) (cdv : Value) (A : Around) (outer : List Env) (s : Shared) (H : Hp) (vs : List V) (Q : VK) (E : XK), Room k (A.deeper (envOfC qual (defScope st) s.heap.objs.size f cdv)) → sp vs H Q E →
      ∃ t, PSs (cxOf (L2.CX P w) P w K mg base N qual (defScope st) f cdv A outer s H E) (defBody st) t ∧ t { nx := fun _ H' => Q .non H', rt := Q } (L2.start N vs) H) : FnOk P w K mg base (L2.CX P w) (k + 1) f fd ps sp :=
  F.ok sc len fun cdv A outer s H vs Q E hr hsp => hbody f cdv A outer s H vs Q E hr hsp
end
/-! ### no repr is under way: guards = some [] -/
structure FnG (P : Program) (w : World) (K : PySem.W.Frag) (mg : Str → Option Value) (base : Heap) (CX : CXT) (k : Nat) (f : Addr) (fd : FuncData) (ps : List Str) (sp : Sp) : Prop where
  len : ∀ vs H Q E, sp vs H Q E → vs.length = ps.length
  run : ∀ (A : Around) (outer : List Env) (s : Shared) (H : Hp) (args : Args) (us : List Value) (vs : List V) (Q : VK) (E : XK), A.guards = some [] → Room k A → Env0 P w K mg base A outer s H → BindsTo s fd args (ps.zip us) → Vals vs us → sp vs H Q E →
    codeAny (model P w) A (.call (.ref f) args) (CR CX outer P w H s Q E) s
section
variable {P : Program} {w : World} {K : PySem.W.Frag} {mg : Str → Option Value} {base : Heap} {CX : CXT} {k : Nat} {f : Addr} {fd : FuncData} {N ps : List Str} {sp : Sp}
theorem FnG.of (F : FnOk P w K mg base CX k f fd ps sp) : FnG P w K mg base CX k f fd ps sp := ⟨F.len, fun A outer s H args us vs Q E _ hr e0 hb hv hs => F.run A outer s H args us vs Q E hr e0 hb hv hs⟩
/-- a def whose body may use that no repr is under way -/
theorem fn_ofG {name qual : Str} {params : Arguments} {body : List Stmt} {scope : Scope} {dV kV doc pm cdv ct oc : Value} {an od : Option Addr} {osl : Array (Option Value)}
    (lk : K.lookup f = some ⟨oc, od, .func (PySem.W.fnOf name qual params body scope dV kV doc pm an cdv ct), osl⟩) (hcd : PySem.W.codeIn K cdv qual = true) (S : FnScope N ps scope) (len : ∀ vs H Q E, sp vs H Q E → vs.length = ps.length)
    (hbody : ∀ (A : Around) (outer : List Env) (s : Shared) (H : Hp) (vs : List V) (Q : VK) (E : XK), A.guards = some [] → Room k (A.deeper (envOfC qual scope s.heap.objs.size f cdv)) → sp vs H Q E →
      ∃ t, PSs (cxOf CX P w K mg base N qual scope f cdv A outer s H E) body t ∧ t { nx := fun _ H' => Q .non H', rt := Q } (L2.start N vs) H) :
    FnG P w K mg base CX (k + 1) f (PySem.W.fnOf name qual params body scope dV kV doc pm an cdv ct) ps sp := by
  constructor
  · exact len
  intro A outer s H args us vs Q E hG hr e0 hb r hsp
  have hl := len _ _ _ _ hsp
  have kin : K.In s.heap := e0.mod.kin.keeps fun b o e => (e0.bs b o e).1
  have nol : s.heap.NoLimit := e0.mod.nolimit.keeps fun b o e => (e0.bs b o e).1
  have kinds : ∀ y ∈ ps.zip us, scope.names.lookup y.1 = some .local ∨ (scope.names.lookup y.1 = some .cell ∧ ((cellsFrom (s.heap.objs.size + 1) scope.names []).lookup y.1).isSome = true) := by
    rintro ⟨n, v⟩ hy
    rcases S.par n (List.of_mem_zip hy).1 with q | q
    · left; exact q
    · right; exact ⟨q, PySem.W.cellsFrom_some _ _ _ (.inl q)⟩
  refine codeAny_call_function hr.depth (kin _ _ lk) rfl S.co S.gen rfl (PySem.W.codeRec_of kin hcd) (hb _ _ _ _ (wpAny_newFunctionEnv_cells S.kind kinds fun env he s1 x => ?_))
  subst he
  refine ⟨nol.keeps x.toInCall.keep, codeAny_func ?_⟩
  obtain ⟨t, ht, hq⟩ := hbody A outer s H vs Q E hG (hr.deeper _) hsp
  refine wpAny_mono (ht.run [] s1 (L2.start N vs) H _ (inv_start S hr.hd e0 hl r x) hq) (fun fl s' hs => ?_) fun e s' hs => hs
  have done : ∀ {σ' : L2.St} {H' : Hp} {v : V} {u : Value}, Inv (cxOf CX P w K mg base N qual scope f cdv A outer s H E) [] σ' H' s' → RelV v u → Q v H' → CE outer P w H s Q u s' := by
    intro σ' H' v u J rv q
    exact ⟨v, H', J.os, J.bare, J.base, J.hok, rv, q⟩
  cases fl with
  | ret u => obtain ⟨v, σ', H', J, rv, q⟩ := hs; exact done J rv q
  | next => obtain ⟨σ', H', J, q⟩ := hs; exact done (v := V.non) (u := Value.none) J rfl q
  | brk => obtain ⟨_, _, _, q⟩ := hs; exact q.elim
  | cont => obtain ⟨_, _, _, q⟩ := hs; exact q.elim
end
structure CalG (P : Program) (w : World) (K : PySem.W.Frag) (mg : Str → Option Value) (base : Heap) (CX : CXT) (k : Nat) (x : Str) (ps : List Str) (sp : Sp) : Prop where
  ex : ∃ f fd, mg x = some (.ref f) ∧ PySem.W.keepIn K (.ref f) = true ∧ Binds K fd ps [] ∧ FnG P w K mg base CX k f fd ps sp
section
variable {P : Program} {w : World} {K : PySem.W.Frag} {mg : Str → Option Value} {base : Heap} {x : Str} {st : Stmt} {N ps : List Str} {k : Nat} {sp : Sp} {f : Addr} {fd : FuncData}
theorem lawG (F : FunD K x x (defArgs st) (defBody st) (defScope st) [] [] f fd) (sc : FnScope N ps (defScope st)) (len : ∀ vs H Q E, sp vs H Q E → vs.length = ps.length)
    (hbody : ∀ (f : Addr) (cdv : Value) (A : Around) (outer : List Env) (s : Shared) (H : Hp) (vs : List V) (Q : VK) (E : XK), A.guards = some [] → Room k (A.deeper (envOfC x (defScope st) s.heap.objs.size f cdv)) → sp vs H Q E →
      ∃ t, PSs (cxOf CX0 P w K mg base N x (defScope st) f cdv A outer s H E).nox (defBody st) t ∧ t { nx := fun _ H' => Q .non H', rt := Q } (L2.start N vs) H) : FnG P w K mg base CX0 (k + 1) f fd ps sp := by
  obtain ⟨oc, od, dV, kV, doc, pm, an, cdv, ct, osl, rfl, lk, hcd, _, _⟩ := F.ex
  refine fn_ofG lk hcd sc len fun A outer s H vs Q E hG hr hsp => ?_
  obtain ⟨t, h, q⟩ := hbody f cdv A outer s H vs Q E hG hr hsp
  exact ⟨t, h.nox, q⟩
theorem Src.calG (S : Src K mg x st) (sc : FnScope N ps (defScope st)) (bn : BindP x st ps) (len : ∀ vs H Q E, sp vs H Q E → vs.length = ps.length)
    (hbody : ∀ (f : Addr) (cdv : Value) (A : Around) (outer : List Env) (s : Shared) (H : Hp) (vs : List V) (Q : VK) (E : XK), A.guards = some [] → Room k (A.deeper (envOfC x (defScope st) s.heap.objs.size f cdv)) → sp vs H Q E →
      ∃ t, PSs (cxOf CX0 P w K mg base N x (defScope st) f cdv A outer s H E).nox (defBody st) t ∧ t { nx := fun _ H' => Q .non H', rt := Q } (L2.start N vs) H) : CalG P w K mg base CX0 (k + 1) x ps sp := by
  obtain ⟨f, fd, g, F⟩ := S
  exact ⟨f, fd, g, F.kp, F.bindsN bn, lawG F sc len hbody⟩
end
section
variable {X : Cx} {x : Str} {ps : List Str} {sp : Sp} {k : Nat} {CX : CXT} {E : XK} {e : Expr} {es : List Expr} {t : TA} {p pos : Pos}
/-- f(e, ..) where no repr is under way -/
theorem pe_calG (C : CalG X.prog X.w X.K X.mg X.base CX k x ps sp) (hG : X.A.guards = some []) (hr : Room k X.A) (hx : Passes CX X E) (ha : PA X (e :: es) t) (hg : Gl X x := by rfl) (hdb : (x == ("__debug__" : Str)) = false := by decide)
    (hs : (e :: es).all nostar = true := by rfl) : PE X (.Call (.Name x p) (e :: es) [] pos) (tCall sp [] E t) := by
  obtain ⟨f, fd, g, kp, b, F⟩ := C.ex
  simp only [List.all_cons, Bool.and_eq_true] at hs
  refine ⟨fun pins s σ H Q I h => wpAny_Call_Name_kw (ld_glob I hg g ?_ hdb)⟩
  refine PySem.W.callWith_K (h₀ := X.base) I.ok.mod.kin kp (thn (ha.run pos pins s σ H _ I h) fun us s1 ⟨vs, H1, I1, r, q⟩ => ⟨I1.kIn, ?_⟩) (star_ok hs.1) (back_ok hs.2)
  have q2 : sp vs H1 Q E := by
    have q' : sp (vs ++ []) H1 Q E := q
    rw [List.append_nil] at q'
    exact q'
  have hl : us.length = ps.length := by rw [← r.length]; exact F.len _ _ _ _ q2
  have hb : BindsTo s1 fd ⟨us, []⟩ (ps.zip us) := by
    have := b s1 us I1.kIn (by rw [List.append_nil]; exact hl)
    rw [List.append_nil] at this
    exact this
  refine wpAny_call (codeAny_mono (F.run X.A X.stack s1 H1 ⟨us, []⟩ us vs Q E hG hr I1.env0 hb r q2) fun r s' hq => ?_)
  cases r with
  | error e => exact hx pins σ H1 s1 e s' I1 hq
  | ok fl => cases fl with
    | ret u => exact I1.after hq
    | next => exact hq.elim
    | brk => exact hq.elim
    | cont => exact hq.elim
end
/-! ### repr of data -/
def rRepr (K : PySem.W.Frag) : List V → Hp → VK → Prop := fun xs H Q => ∃ (x : V) (d : PyData), xs = [x] ∧ Dp K H x d ∧ d.showable = true ∧ d.hasDict = false ∧ d.depth ≤ 50 ∧ d.shown.length ≤ sizeLine ∧ Q (.str d.shown) H
theorem call_reprD {X : Cx} (hG : X.A.guards = some []) (hu : X.A.units + 64 < cLine) : CallR X (.builtin "repr") (rRepr X.K) := by
  intro pins s σ H xs us Q I rx h
  obtain ⟨x, d, rfl, hd, sh, nd, dp, hz, q⟩ := h
  obtain ⟨u, rfl, ru⟩ := rx.one
  obtain ⟨as, rd⟩ := Dp.reads I d x u hd ru
  have fin : ∀ h' tk0 tk, (∀ b o, s.heap.get? b = some o → h'.get? b = some o) → EP X pins σ Q (.str d.shown tk0) { s with heap := h', toks := tk } := fun h' tk0 tk hk => ⟨.str d.shown, H, I.kept hk, ⟨_, rfl⟩, q⟩
  have tok : ∀ tk0 tk, EP X pins σ Q (.str d.shown tk0) { s with toks := tk } := fun tk0 tk => ⟨.str d.shown, H, I.tok _, ⟨_, rfl⟩, q⟩
  cases hd with
  | non => cases ru; exact P.repr_of_none (tok _ _)
  | bl b => cases ru; exact P.repr_of_bool (by cases b <;> exact tok _ _)
  | int i =>
    obtain ⟨t, rfl⟩ := ru
    exact P.repr_of_int (by simpa [PyData.showable] using sh) (tok _ _)
  | str z =>
    obtain ⟨t, rfl⟩ := ru
    exact P.repr_of_str (tok _ _) hz
  | lst h1 h2 =>
    cases ru
    exact repr_of_reads' rd sh (fun z => by rw [nd] at z; cases z) hG (by omega) (fun b o e => e) (fun h' u tk hk => fin h' u tk hk) hz
  | tup h1 h2 =>
    cases ru
    exact repr_of_reads' rd sh (fun z => by rw [nd] at z; cases z) hG (by omega) (fun b o e => e) (fun h' u tk hk => fin h' u tk hk) hz
theorem call_reprK {X : Cx} {K : PySem.W.Frag} (hK : X.K = K) (hG : X.A.guards = some []) (hu : X.A.units + 64 < cLine) : CallR X (.builtin "repr") (rRepr K) := by
  subst hK
  exact call_reprD hG hu
end Fx
/-! A law's end where the law's def knows that no repr is under way -/
namespace Fx
open PySem PySem.Spec PyProof.Rows L2
section
variable {P : Program} {w : World} {K : PySem.W.Frag} {mg mb : Str → Option Value} {CX : CXT} {k : Nat} {fa a : Addr} {fd : FuncData} {x : Str} {sp : Sp} {z : Shared} {vs : List Value} {ns : List Int}
/-- the law's call from a heap that tracks the script at most -/
theorem endG_from {H : Hp} (KX : K.In z.heap) (hns : z.heap.Ns mainGlobals mg) (hb : z.heap.Ns builtinsNs mb) (hbb : ∀ x : Str, x ≠ "__name__" → mb x = bootBuiltins x) (hlim : z.heap.NoLimit) (hg : z.gens = #[])
    (ha : z.heap.get? a = some { cls := .type "list", data := .seq vs.toArray }) (hr : Room k callerA) (F : ∀ base : Heap, K.In base → base.Ns mainGlobals mg → FnG P w K mg base CX k fa fd [x] sp)
    (hbind : ∀ (s : Shared) (u : Value), BindsTo s fd ⟨[u], []⟩ [(x, u)]) (hCX : ∀ H e s', CX [] H z (fun _ _ _ => False) e s' → False) (hO : Only H) (hp : sp [.ref a] H (fun v _ => v = .bl true) fun _ _ _ => False)
    (hok : HOk P w H z.heap) (only : ∀ b, H b ≠ none → b = a) (hK : H a ≠ none → K.lookup a = none) :
    codeAny (model P w) callerA (.call (.ref fa) ⟨[.ref a], []⟩) (fun r s' => r = .ok (.ret (.bool true)) ∧ OldK z.heap s'.heap ∧ s'.os = z.os ∧ AllBare s'.gens) z := by
  -- what is not the script is not tracked
  have free : ∀ {b : Addr}, b ≠ a → H b = none := by
    intro b hn
    cases q : H b with
    | none => rfl
    | some u => exact absurd (only b (by rw [q]; intro y; cases y)) hn
  have keepNs : ∀ {b : Addr} {m : Str → Option Value}, z.heap.Ns b m → (hidT z.heap H).Ns b m := by
    rintro b m ⟨o, es, ep, e, d, r⟩
    refine ⟨o, es, ep, hidT_get e (free ?_), d, r⟩
    intro q
    rw [q, ha] at e
    cases e
    cases (show Data.seq vs.toArray _ = Data.dict es ep from d)
  have keepK : K.In (hidT z.heap H) := by
    intro b o e
    refine hidT_get (KX b o e) ?_
    cases q : H b with
    | none => rfl
    | some u =>
      have eb := only b (by rw [q]; intro y; cases y)
      rw [eb] at e q
      rw [hK (by rw [q]; intro y; cases y)] at e
      cases e
  obtain ⟨mc, l1, l2⟩ := hlim
  have hM : Mod K mg (hidT z.heap H) := ⟨keepK, keepNs hns, ⟨mb, keepNs hb, hbb⟩, ⟨mc, keepNs l1, l2⟩⟩
  have none_ : ∀ b : Addr, b ∉ ([] : List Addr) := fun b h => by cases h
  have e0 : Env0 P w K mg (hidT z.heap H) callerA [] z H := ⟨rfl, hM, fun b o e => of_hidT e, Nat.le_of_eq (hidT_size _ _), trivial, fun b q => absurd (show b ∈ ([] : List Addr) from q) (none_ b), hok, .of_eq hg⟩
  have run := (F _ keepK (keepNs hns)).run callerA [] z H ⟨[.ref a], []⟩ [.ref a] [.ref a] _ _ rfl hr e0 (hbind z (.ref a)) (.cons rfl .nil) hp
  refine codeAny_mono run fun r s' h => ?_
  match r, h with
  | .error e, h => exact (hCX H e s' h).elim
  | .ok .next, h => exact h.elim
  | .ok .brk, h => exact h.elim
  | .ok .cont, h => exact h.elim
  | .ok (.ret u), h =>
    obtain ⟨v, H', os, bare, un, hok', ru, qv⟩ := h
    have ev : v = .bl true := qv
    rw [ev] at ru
    obtain rfl : u = Value.bool true := ru
    refine ⟨rfl, OldK.of_keep fun b o e => ?_, os, bare⟩
    rcases hO b with f | ⟨ob, xs, f⟩
    · exact un.keep b o e f (by intro y; exact absurd (show b ∈ ([] : List Addr) from y) (none_ b)) (by simp)
    · have e1 := (hok b _ f).1
      have e2 := (hok' b _ (un.frzs b ob _ f)).1
      rw [e] at e1
      cases e1
      exact e2
end
theorem walk_ofG {l : PySem.W.OpenLaw} {n k : Nat} {q : Program} {loose : List Str} {XP : (Str → Option Value) → Heap → Prop} {YP : World → Heap → Prop} {d : DefRec} {x : Str}
    (hn : l.most = some n) (hn2 : n ≤ sizeLine) (hdf : d.params.defaults = []) (hr : Room k callerA)
    (F : ∀ (w : World) (mg : Str → Option Value) (fa : Addr) (h : Heap), YP w h → h.Ns mainGlobals mg → mg d.name = some (.ref fa) →
      ∃ (K : PySem.W.Frag) (fd : FuncData) (sp : Sp), K.In h ∧ (∀ (s : Shared) (u : Value), BindsTo s fd ⟨[u], []⟩ [(x, u)]) ∧
        (∀ (H : Hp) (a : Addr) (ns : List Int), ns.length ≤ n → SqL K H a (ns.map V.int) → sp [.ref a] H (fun v _ => v = .bl true) fun _ _ _ => False) ∧
        ∀ base : Heap, K.In base → base.Ns mainGlobals mg → FnG l.prog w K mg base CX0 k fa fd [x] sp) :
    PySem.W.WalkO q loose XP YP l.row.toRowW d [] (fun f vs => PySem.call f vs) := by
  refine Att.attach_call hn hdf fun w s₀ z mg mb fa o pm cd doc a vs ns G Y ho hd hcd hmg hobj hints hlen hg => ?_
  obtain ⟨K, fd, sp, KX, hb, hsp, hF⟩ := F w mg fa _ Y G.T.g hmg
  have rv := vals_ints hints
  have lv := hints.length
  have hl : ns.length ≤ sizeLine := Nat.le_trans hlen hn2
  have go : ∀ H : Hp, Only H → SqL K H a (ns.map V.int) → HOk l.prog w H z.heap → (∀ b, H b ≠ none → b = a) → (H a ≠ none → K.lookup a = none) → _ := fun H hO hS hok only hK =>
    endG_from KX G.T.g G.T.b G.T.builtins G.T.nolimit hg hobj hr hF hb (fun _ _ _ y => y) hO (hsp H a ns hlen hS) hok only hK
  cases hk : K.lookup a with
  | some o =>
    have e := KX a o hk
    rw [hobj] at e
    cases e
    have hS : SqL K (fun _ => none) a (ns.map V.int) := .inr ⟨_, vs.toArray, _, hk, rfl, rfl, rfl, (by rw [List.size_toArray, lv]; exact hl), by simpa using rv⟩
    exact go (fun _ => none) (fun _ => .inl rfl) hS (fun b u y => by cases (show (none : Option HO) = some u from y)) (fun b y => absurd rfl y) (fun y => absurd rfl y)
  | none =>
    let o0 : Obj := { cls := .type "list", data := .seq vs.toArray }
    let H0 : Hp := fun b => if b = a then some (.frz o0 (.lst (ns.map V.int))) else none
    have at_ : H0 a = some (.frz o0 (.lst (ns.map V.int))) := if_pos rfl
    have off : ∀ {b : Addr}, b ≠ a → H0 b = none := fun h => if_neg h
    refine go H0 (fun b => ?_) (.inl (.inr ⟨o0, at_⟩)) (fun b u y => ?_) (fun b y => ?_) fun _ => hk
    · by_cases e : b = a
      · rw [e]
        exact .inr ⟨_, _, at_⟩
      · exact .inl (off e)
    · by_cases e : b = a
      · rw [e, at_] at y
        cases y
        rw [e]
        exact ⟨hobj, by rw [List.length_map]; exact hl, vs, _, rv, hobj⟩
      · rw [off e] at y
        cases y
    · by_cases e : b = a
      · exact e
      · exact absurd (off e) y
end Fx
/-! text.ljust(n, sign), sign.join(a tracked list), is True, a module's tuple of tuples -/
namespace Fx
open PySem PySem.Spec PyProof.Rows L2
section
variable {X : Cx}
def rLj : V → List V → Hp → VK → Prop := fun x xs H Q => ∃ (a f : Str) (i : Int), x = .str a ∧ xs = [.int i, .str f] ∧ PadOk i = true ∧ f.length = 1 ∧ Q (.str (Txt.ljustF a i (f.cps.getD 0 0))) H
theorem mt_lj : MtR X "str.ljust" rLj := by
  intro pins s σ H x xs v us Q I rx rs h
  obtain ⟨a, f, i, rfl, rfl, hp, hf, q⟩ := h
  obtain ⟨t, rfl⟩ := rx
  obtain ⟨u1, u2, rfl, r1, r2⟩ := rs.two
  obtain ⟨t1, rfl⟩ := r1
  obtain ⟨t2, rfl⟩ := r2
  exact ljust_fill hp hf fun t' k => ⟨.str _, H, I.tok _, ⟨_, rfl⟩, q⟩
def rJn : V → List V → Hp → VK → Prop := fun x xs H Q => ∃ (a : Str) (p : Addr) (ys : List Str), x = .str a ∧ xs = [.ref p] ∧ H p = some (.lst (ys.map V.str)) ∧ (ys.map (·.length)).sum + ys.length * a.length ≤ 16777216 ∧ Q (.str (Txt.join a ys)) H
theorem mt_jn : MtR X "str.join" rJn := by
  intro pins s σ H x xs v us Q I rx rs h
  obtain ⟨a, p, ys, e1, e2, hp, hz, q⟩ := h
  exact mt_join pins s σ H x xs v us Q I rx rs ⟨a, p, ys, e1, e2, .inl (.inl (.inl hp)), hz, q⟩
def rIsBl : R2 := fun x y H Q => ∃ a b, x = .bl a ∧ y = .bl b ∧ Q (.bl (decide (a = b))) H
theorem op_isBo : OpR X (compareOp .Is) rIsBl := op_is_bl
def rNoBl : R2 := fun x y H Q => ∃ a b, x = .bl a ∧ y = .bl b ∧ Q (.bl (!decide (a = b))) H
theorem op_noBo : OpR X (compareOp .IsNot) rNoBl := op_isnot_bl
end
/-! ### a module's tuple of tuples of numbers -/
def tupI (K : PySem.W.Frag) (v : Value) (r : List Int) : Bool := match v with
  | .ref a => (match K.lookup a with
    | some ⟨.type c, _, .seq its _, _⟩ => decide (c = "tuple") && (decide (its.size ≤ sizeLine) && He.relAll (r.map V.int) its.toList)
    | _ => false)
  | _ => false
def tupIs (K : PySem.W.Frag) : List Value → List (List Int) → Bool
  | [], [] => true
  | v :: vs, r :: rs => tupI K v r && tupIs K vs rs
  | _, _ => false
def tupsB (K : PySem.W.Frag) (x : Str) (rows : List (List Int)) : Bool := match K.lookup (He.ga K x) with
  | some ⟨.type c, _, .seq its _, _⟩ => decide (c = "tuple") && (decide (its.size ≤ sizeLine) && tupIs K its.toList rows)
  | _ => false
theorem tupI_ok {K : PySem.W.Frag} {v : Value} {r : List Int} (h : tupI K v r = true) : ∃ a, v = .ref a ∧ ∀ H, SqT K H a (r.map V.int) := by
  cases v with
  | ref a =>
    refine ⟨a, rfl, fun H => ?_⟩
    unfold tupI at h
    dsimp only at h
    cases q : K.lookup a with
    | none => rw [q] at h; cases h
    | some o =>
      obtain ⟨oc, od, dt, osl⟩ := o
      rw [q] at h
      cases oc with
      | type c =>
        cases dt with
        | seq its n =>
          obtain ⟨h1, h2⟩ := He.ba (show (decide (c = "tuple") && (decide (its.size ≤ sizeLine) && He.relAll (r.map V.int) its.toList)) = true from h)
          obtain ⟨h3, h4⟩ := He.ba h2
          exact .inr ⟨_, its, n, q, congrArg Value.type (of_decide_eq_true h1), rfl, of_decide_eq_true h3, He.relAll_ok h4⟩
        | _ => cases h
      | _ => cases dt <;> cases h
  | _ => cases h
theorem tupIs_ok {K : PySem.W.Frag} : ∀ {vs : List Value} {rs : List (List Int)}, tupIs K vs rs = true → ∃ as : List Addr, Vals (as.map V.ref) vs ∧ ∀ (i : Nat) (r : List Int), rs[i]? = some r → ∃ a, as[i]? = some a ∧ ∀ H, SqT K H a (r.map V.int)
  | [], [], _ => ⟨[], .nil, fun i r h => by simp at h⟩
  | v :: vs, r :: rs, h => by
    obtain ⟨h1, h2⟩ := He.ba (show (tupI K v r && tupIs K vs rs) = true from h)
    obtain ⟨a, rfl, ha⟩ := tupI_ok h1
    obtain ⟨as, hv, hr⟩ := tupIs_ok h2
    refine ⟨a :: as, .cons rfl hv, fun i r' hi => ?_⟩
    cases i with
    | zero =>
      have e : r = r' := by simpa using hi
      exact ⟨a, rfl, e ▸ ha⟩
    | succ i =>
      obtain ⟨b, hb, hs⟩ := hr i r' (by simpa using hi)
      exact ⟨b, by simpa using hb, hs⟩
  | [], _ :: _, h => by cases h
  | _ :: _, [], h => by cases h
theorem tupsB_ok {K : PySem.W.Frag} {x : Str} {rows : List (List Int)} (h : tupsB K x rows = true) : ∃ as : List Addr, (∀ H, SqT K H (He.ga K x) (as.map V.ref)) ∧ ∀ (i : Nat) (r : List Int), rows[i]? = some r → ∃ a, as[i]? = some a ∧ ∀ H, SqT K H a (r.map V.int) := by
  unfold tupsB at h
  cases q : K.lookup (He.ga K x) with
  | none => rw [q] at h; cases h
  | some o =>
    obtain ⟨oc, od, dt, osl⟩ := o
    rw [q] at h
    cases oc with
    | type c =>
      cases dt with
      | seq its n =>
        obtain ⟨h1, h2⟩ := He.ba (show (decide (c = "tuple") && (decide (its.size ≤ sizeLine) && tupIs K its.toList rows)) = true from h)
        obtain ⟨h3, h4⟩ := He.ba h2
        obtain ⟨as, hv, hr⟩ := tupIs_ok h4
        exact ⟨as, fun H => .inr ⟨_, its, n, q, congrArg Value.type (of_decide_eq_true h1), rfl, of_decide_eq_true h3, hv⟩, hr⟩
      | _ => cases h
    | _ => cases dt <;> cases h
/-! ### loops over a text's signs -/
theorem for_S {z : Str} {g : TG} {tb : TS} {D : Ends} {σ : L2.St} {H : Hp} (Pv : Nat → L2.St → Hp → Prop) (h0 : Pv 0 σ H)
    (hs : ∀ i c σ H, z.cps.toList[i]? = some c → Pv i σ H → g (.str ⟨#[c]⟩) σ H fun σ2 H2 => tb { D with nx := Pv (i + 1), ct := Pv (i + 1), bk := D.nx } σ2 H2) (hd : ∀ σ H, Pv z.cps.toList.length σ H → D.nx σ H) :
    ∃ W : Nat → Nat → L2.St → Hp → Prop, (∃ m, W 0 m σ H) ∧ ∀ i m σ H, W i m σ H →
      ((Its z).stop i H ∧ D.nx σ H) ∨ ((Its z).go i H ∧ ∃ N : L2.St → Hp → Prop, (∀ σ' H', N σ' H' → ∃ m', m' < m ∧ W (i + 1) m' σ' H') ∧ ∀ x H', (Its z).yld i H x H' → g x σ H' fun σ2 H2 => tb { D with nx := N, ct := N, bk := D.nx } σ2 H2) := by
  refine ⟨fun i m σ H => m = z.cps.size - i ∧ i ≤ z.cps.size ∧ Pv i σ H, ⟨_, rfl, Nat.zero_le _, h0⟩, ?_⟩
  rintro i m σ H ⟨rfl, hi, p⟩
  by_cases hlt : i < z.cps.size
  · refine .inr ⟨hlt, fun σ' H' => Pv (i + 1) σ' H', fun σ' H' q => ⟨z.cps.size - (i + 1), by omega, rfl, hlt, q⟩, fun x H' hy => ?_⟩
    obtain ⟨rfl, c, hc, rfl⟩ := hy
    exact hs i c σ H' (by rw [Array.getElem?_toList]; exact hc) p
  · have ei : i = z.cps.size := by omega
    subst ei
    exact .inl ⟨Nat.le_refl _, hd σ H (by rw [Array.length_toList]; exact p)⟩
theorem lc_S {z : Str} {g : TG} {tt : TT} {te : TE} {vs : List Nat} {σ : L2.St} {H1 : Hp} {D : Addr} {Qd : Hp → Prop} (Pv : Nat → Hp → Prop) (h0 : Pv 0 (upd H1 D (.lst [])))
    (hs : ∀ i c H, z.cps.toList[i]? = some c → Pv i H → g (.str ⟨#[c]⟩) (wipe σ vs) H fun σ2 H2 => wipe σ2 vs = wipe σ vs ∧ tt σ2 H2 fun b H3 =>
      if b = true then te σ2 H3 fun y H4 => ∃ acc, H4 D = some (.lst acc) ∧ acc.length < sizeLine ∧ Pv (i + 1) (upd H4 D (.lst (acc ++ [y]))) else Pv (i + 1) H3) (hd : ∀ H, Pv z.cps.toList.length H → Qd H) :
    ∃ W : Nat → Nat → Hp → Prop, (∃ m, W 0 m (upd H1 D (.lst []))) ∧ ∀ i m H, W i m H →
      ((Its z).stop i H ∧ Qd H) ∨ ((Its z).go i H ∧ ∃ Nx : Hp → Prop, (∀ H', Nx H' → ∃ m', m' < m ∧ W (i + 1) m' H') ∧ ∀ x H', (Its z).yld i H x H' → g x (wipe σ vs) H' fun σ2 H2 => wipe σ2 vs = wipe σ vs ∧ tt σ2 H2 fun b H3 =>
        if b = true then te σ2 H3 fun y H4 => ∃ acc, H4 D = some (.lst acc) ∧ acc.length < sizeLine ∧ Nx (upd H4 D (.lst (acc ++ [y]))) else Nx H3) := by
  refine ⟨fun i m H => m = z.cps.size - i ∧ i ≤ z.cps.size ∧ Pv i H, ⟨_, rfl, Nat.zero_le _, h0⟩, ?_⟩
  rintro i m H ⟨rfl, hi, p⟩
  by_cases hlt : i < z.cps.size
  · refine .inr ⟨hlt, fun H' => Pv (i + 1) H', fun H' q => ⟨z.cps.size - (i + 1), by omega, rfl, hlt, q⟩, fun x H' hy => ?_⟩
    obtain ⟨rfl, c, hc, rfl⟩ := hy
    exact hs i c H' (by rw [Array.getElem?_toList]; exact hc) p
  · have ei : i = z.cps.size := by omega
    subst ei
    exact .inl ⟨Nat.le_refl _, hd H (by rw [Array.length_toList]; exact p)⟩
theorem mem_sign {c : Nat} {z : Str} {p : Prop} (h : (c ∈ z.cps.toList) = p) : (c ∈ z.cps.toList) = p := h
/-- ''.join -/
theorem join0_list : ∀ ys : List Str, (Txt.join "" ys).cps.toList = (ys.map fun y => y.cps.toList).flatten
  | [] => rfl
  | y :: ys => by
    have key : ∀ (l : List Str) (acc : Array Nat), (l.foldl (fun acc p => acc ++ (("" : Str)).cps ++ p.cps) acc).toList = acc.toList ++ (l.map fun y => y.cps.toList).flatten := by
      intro l
      induction l with
      | nil => intro acc; simp
      | cons a l ih =>
        intro acc
        rw [List.foldl_cons, ih]
        have e : (("" : Str)).cps = #[] := rfl
        rw [e]
        simp
    exact key ys y.cps
mutual
theorem dp_mono {K : PySem.W.Frag} {H H' : Hp} (hl : ∀ a xs, SqL K H a xs → SqL K H' a xs) (ht : ∀ a xs, SqT K H a xs → SqT K H' a xs) : ∀ (d : PyData) (v : V), Dp K H v d → Dp K H' v d
  | .none, _, h => by cases h; exact .non
  | .bool b, _, h => by cases h; exact .bl b
  | .int i, _, h => by cases h; exact .int i
  | .str x, _, h => by cases h; exact .str x
  | .list ds, _, h => by
    cases h with
    | lst hs ha => exact .lst (hl _ _ hs) (dp_monoAll hl ht ds _ ha)
  | .tuple ds, _, h => by
    cases h with
    | tup hs ha => exact .tup (ht _ _ hs) (dp_monoAll hl ht ds _ ha)
  | .dict _, _, h => by cases h
theorem dp_monoAll {K : PySem.W.Frag} {H H' : Hp} (hl : ∀ a xs, SqL K H a xs → SqL K H' a xs) (ht : ∀ a xs, SqT K H a xs → SqT K H' a xs) : ∀ (ds : List PyData) (vs : List V), DpAll K H vs ds → DpAll K H' vs ds
  | [], _, h => by cases h; exact .nil
  | d :: ds, _, h => by
    cases h with
    | cons h1 h2 => exact .cons (dp_mono hl ht d _ h1) (dp_monoAll hl ht ds _ h2)
end
theorem rd_keep {H H' : Hp} {b a : Addr} {o : HO} (hk : ∀ a o, a ≠ b → H a = some o → H' a = some o) (hb : ∃ kvs, H b = some (.dK kvs)) (no : ∀ kvs, o ≠ .dK kvs) (h : Rd H a o) : Rd H' a o := by
  obtain ⟨kvs, hb⟩ := hb
  rcases h with h | ⟨ob, h⟩
  · refine .inl (hk a o (fun e => ?_) h)
    rw [e, hb] at h
    exact no kvs (Option.some.inj h).symm
  · refine .inr ⟨ob, hk a _ (fun e => ?_) h⟩
    rw [e, hb] at h
    cases h
theorem dp_same {K : PySem.W.Frag} {H H' : Hp} {d : PyData} {v : V} (s : Same H H') (h : Dp K H v d) : Dp K H' v d := by
  refine dp_mono (fun _ _ q => s.seq q) (fun a xs q => ?_) d v h
  rcases q with (q | ⟨ob, q⟩) | q
  · exact .inl (.inl (s _ _ q))
  · exact .inl (.inr ⟨ob, s _ _ q⟩)
  · exact .inr q
theorem dp_kp {K : PySem.W.Frag} {b : Addr} {H H' : Hp} {d : PyData} {v : V} (B : Bag H b) (k : Kp b H H') (h : Dp K H v d) : Dp K H' v d := by
  refine dp_mono (fun a xs q => ?_) (fun a xs q => ?_) d v h
  · rcases q with q | q
    · exact .inl (rd_keep k.keep B.some (fun _ e => by cases e) q)
    · exact .inr q
  · rcases q with q | q
    · exact .inl (rd_keep k.keep B.some (fun _ e => by cases e) q)
    · exact .inr q
/-- data that repr shows -/
structure Shw (K : PySem.W.Frag) (H : Hp) (v : V) (d : PyData) : Prop where
  dp : Dp K H v d
  sh : d.showable = true
  nd : d.hasDict = false
  dep : d.depth ≤ 50
  len : d.shown.length ≤ sizeLine
  ok : isF (.str d.shown) = true
theorem Shw.same {K : PySem.W.Frag} {H H' : Hp} {d : PyData} {v : V} (s : Same H H') (h : Shw K H v d) : Shw K H' v d := ⟨dp_same s h.dp, h.sh, h.nd, h.dep, h.len, h.ok⟩
theorem Shw.kp {K : PySem.W.Frag} {b : Addr} {H H' : Hp} {d : PyData} {v : V} (B : Bag H b) (k : Kp b H H') (h : Shw K H v d) : Shw K H' v d := ⟨dp_kp B k h.dp, h.sh, h.nd, h.dep, h.len, h.ok⟩
end Fx
/-! x == y by an own __eq__; own methods and makers in a try's body; a def that is given the caught error -/
namespace Fx
open PySem PySem.Spec PyProof.Rows L2
section
variable {X : Cx} {CX : CXT} {k : Nat} {C : Addr} {ps : List Str} {sp : Sp} {E : XK}
/-- x == y, both of the class at C -/
def rOwnEq (C : Addr) (sp : Sp) (E : XK) : R2 := fun x y H Q => ∃ a b dx dy fs gs, x = .ref a ∧ y = .ref b ∧ H a = some (.ins C dx fs) ∧ H b = some (.ins C dy gs) ∧ sp [.ref a, .ref b] H (fun v H' => ∃ r, v = .bl r ∧ Q (.bl r) H') E
theorem op_eqOwn (M : CalM X.prog X.w X.K X.mg X.base CX k C "__eq__" ps sp) (hr : Room k X.A) (hx : Passes CX X E) : OpR X (compareOp .Eq) (rOwnEq C sp E) := by
  intro pins s σ H x y v u Q I rx ry hq
  obtain ⟨f, fd, m, b, F⟩ := M.ex
  obtain ⟨a, c, dx, dy, fs, gs, rfl, rfl, ha, hc, hsp⟩ := hq
  cases rx
  cases ry
  obtain ⟨mA, J, _⟩ := ins_get I.hok ha
  obtain ⟨mB, J', _⟩ := ins_get I.hok hc
  obtain ⟨od, J, _⟩ := J.look
  obtain ⟨od', J', _⟩ := J'.look
  obtain ⟨mm, hF⟩ := I.fr
  show wpAny (model X.prog X.w) X.A (richCompare .Eq (.ref a) (.ref c)) (EP X pins σ Q) X.xe s
  refine PySem.W.cmp_K (op := .Eq) (tb := .ref C) hr.units0 hF I.ok.mod.kin J J'.type (by simp [PySem.W.notFirst]) m.at_ m.fn ?_
  refine wpAny_mono (run_fn (us := [.ref a, .ref c]) (vs := [.ref a, .ref c]) (ds := []) (dvs := []) (Q := fun v H' => ∃ r, v = .bl r ∧ Q (.bl r) H') F hr b .nil hx I (.cons rfl (.cons rfl .nil)) hsp) (fun v s' hv => ?_) fun _ _ z => z
  obtain ⟨z, H', I', rz, r, rfl, q⟩ := hv
  cases rz
  exact ⟨.bl r, H', I', rfl, q⟩
end
/-! ### in a try's body -/
section
variable {X : Cx} {k : Nat} {f C : Addr} {fd : FuncData} {ps : List Str} {sp : Sp} {W : WX} {x m : Str} {p pos apos : Pos} {e o : Expr} {es : List Expr} {ta : TE} {t : TA}
def tMethT (C : Addr) (m : Str) (sp : Sp) (E : L2.St → XK) (ta : TE) (t : TA) : TE := fun σ H Q => ta σ H fun x H1 => ∃ a dx fs, x = .ref a ∧ H1 a = some (.ins C dx fs) ∧ fs.lookup m = none ∧ t σ H1 fun vs H2 => sp (x :: vs) H2 Q (E σ)
theorem pe_methT {pl : Sem Bool} (he : PE X o ta) (c : Cls X.K C) (hm : Meth X.K C m f) (F : FnOk X.prog X.w X.K X.mg X.base (L2.CX X.prog X.w) k f fd ps sp) (hr : Room k X.A) (hb : Binds X.K fd ps []) (tk : Takes X W) (ha : PA X (e :: es) t)
    (hst : starEach (e :: es) X.env = (false, eval e X.env) :: starEach es X.env := by rfl) (hpl : (backTo pos (starEach es X.env)).any (·.1) = false := by rfl)
    (ht : eval (.Call (.Attribute o m apos) (e :: es) [] pos) X.env = (do
      let ov ← eval o X.env
      standAt apos.atName
      let (f, first) ← holding [ov] (getMethod ov m pl)
      callWith pos f first (backTo pos (starEach (e :: es) X.env)) (backToKw pos (keywordEach [] X.env))) := by rfl) :
    PE X (.Call (.Attribute o m apos) (e :: es) [] pos) (tMethT C m sp (WE W) ta t) := by
  refine ⟨fun pins s σ H Q I h => ?_⟩
  refine PySem.W.methodCall_KW (pl := pl) (thn (he.run pins s σ H _ I h) fun u s1 ⟨x, H1, I1, rx, a, dx, fs, ex, ea, l, q⟩ => ?_) ht
  subst ex
  obtain rfl : u = Value.ref a := rx
  refine getmeth_ok I1 ea c hm l ?_
  refine PySem.W.callWith_K (first := [.ref a]) (h₀ := X.base) I.ok.mod.kin hm.kp (thn (ha.run pos pins s1 σ H1 _ I1 q) fun us s2 ⟨vs, H2, I2, r, q2⟩ => ⟨I2.kIn, ?_⟩) hst hpl
  exact run_fnS (us := .ref a :: us) (vs := .ref a :: vs) (E := WE W) F hr hb (passAt tk σ) I2 (.cons rfl r) q2
/-- C(..) -/
def tMakeT (C : Addr) (sp : Sp) (E : L2.St → XK) (t : TA) : TE := fun σ H Q => t σ H fun vs H1 => ∀ x dx, H1 x = none → H1 dx = none → dx ≠ x →
  sp (.ref x :: vs) (upd (upd H1 dx (.own x)) x (.ins C dx [])) (fun v H2 => v = .non ∧ Q (.ref x) H2) (E σ)
theorem pe_mkT (M : CalI X.prog X.w X.K X.mg X.base (L2.CX X.prog X.w) k C ps sp) (hr : Room (k + 1) X.A) (hm : X.mg x = some (.ref C)) (tk : Takes X W) (ha : PA X (e :: es) t) (hg : Gl X x := by rfl) (hdb : (x == ("__debug__" : Str)) = false := by decide)
    (hs : (e :: es).all nostar = true := by rfl) : PE X (.Call (.Name x p) (e :: es) [] pos) (tMakeT C sp (WE W) t) := by
  obtain ⟨f, fd, m, b, F⟩ := M.ex
  simp only [List.all_cons, Bool.and_eq_true] at hs
  refine ⟨fun pins s σ H Q I h => ?_⟩
  refine wpAny_Call_Name_kw (ld_glob I hg hm ?_ hdb)
  refine PySem.W.callWith_K (h₀ := X.base) I.ok.mod.kin m.kp (thn (ha.run pos pins s σ H _ I h) fun us s1 ⟨vs, H1, I1, r, q⟩ => ⟨I1.kIn, ?_⟩) (star_ok hs.1) (back_ok hs.2)
  have hq := q (s1.heap.objs.size + 1) s1.heap.objs.size (I1.hok.fresh (Nat.le_succ _)) (I1.hok.fresh (Nat.le_refl _)) (Nat.ne_of_lt (Nat.lt_succ_self _))
  have I2 := Inv.made (C := C) I1
  have r2 : Vals (V.ref (s1.heap.objs.size + 1) :: vs) (Value.ref (s1.heap.objs.size + 1) :: us) := .cons rfl r
  have hl : (Value.ref (s1.heap.objs.size + 1) :: us).length = ps.length := by
    have e := r2.length
    rw [F.len _ _ _ _ hq] at e
    exact e.symm
  have b2 := b _ (Value.ref (s1.heap.objs.size + 1) :: us) I2.kIn (by rw [List.append_nil]; exact hl)
  rw [List.append_nil] at b2
  refine wpAny_call (make_map (f := f) I1.kIn m.makes m.init (beq_iff_eq.mp m.fn) (codeAny_mono (F.run _ X.stack _ _ ⟨Value.ref (s1.heap.objs.size + 1) :: us, []⟩ (Value.ref (s1.heap.objs.size + 1) :: us) _ _ (WE W σ) (hr.make C us [])
    (I2.env0.make C us []) b2 r2 hq) fun r s' hq' => ?_))
  cases r with
  | error e => exact passAt tk σ pins _ _ e s' I2 hq'
  | ok fl =>
    cases fl with
    | ret u =>
      obtain ⟨v, H', I3, rv, ev, q3⟩ := I2.after hq'
      subst ev
      exact ⟨rv, ⟨V.ref (s1.heap.objs.size + 1), H', I3, rfl, q3⟩⟩
    | next => exact False.elim hq'
    | brk => exact False.elim hq'
    | cont => exact False.elim hq'
end
/-! ### a def that is given the error which the caller's suite holds -/
abbrev SpE := Addr → Value → Option Addr → Hp → VK → Prop
structure FnE (P : Program) (w : World) (K : PySem.W.Frag) (mg : Str → Option Value) (base : Heap) (k : Nat) (f : Addr) (fd : FuncData) (x : Str) (sp : SpE) : Prop where
  run : ∀ (A : Around) (outer : List Env) (s : Shared) (H : Hp) (args : Args) (Q : VK) (a : Addr) (oe : Obj) (cls : Value) (d : Option Addr), L2H.RoomH k A → L2H.PinOk outer H s (a, oe) → Zc cls d oe → (∃ vs, oe.data = .fields vs) → Env0 P w K mg base A outer s H →
    BindsTo s fd args [(x, .ref a)] → sp a cls d H Q → codeAny (model P w) A (.call (.ref f) args) (CR CX0 outer P w H s Q E0) s
/-- the context of its body -/
abbrev cxE (P : Program) (w : World) (K : PySem.W.Frag) (mg : Str → Option Value) (base : Heap) (N : List Str) (qual : Str) (scope : Scope) (f : Addr) (cd : Value) (A : Around) (outer : List Env) (s : Shared) (H : Hp) (p : Addr × Obj) : Cx :=
  (L2H.cxH CX0 P w K mg base N qual scope f cd A outer s H E0 p).nox
theorem fn_ofE {P : Program} {w : World} {K : PySem.W.Frag} {mg : Str → Option Value} {base : Heap} {k : Nat} {f : Addr} {name qual : Str} {params : Arguments} {body : List Stmt} {scope : Scope} {dV kV doc pm cdv ct oc : Value} {an od : Option Addr}
    {osl : Array (Option Value)} {N : List Str} {x : Str} {sp : SpE} (lk : K.lookup f = some ⟨oc, od, .func (PySem.W.fnOf name qual params body scope dV kV doc pm an cdv ct), osl⟩) (hcd : PySem.W.codeIn K cdv qual = true) (S : FnScope N [x] scope)
    (hbody : ∀ (A : Around) (outer : List Env) (s : Shared) (H : Hp) (Q : VK) (a : Addr) (oe : Obj) (cls : Value) (d : Option Addr), L2H.RoomH k (A.deeper (envOfC qual scope s.heap.objs.size f cdv)) → Zc cls d oe → (∃ vs, oe.data = .fields vs) → sp a cls d H Q →
      ∃ t, PSs (cxE P w K mg base N qual scope f cdv A outer s H (a, oe)) body t ∧ t { nx := fun _ H' => Q .non H', rt := Q } (L2.start N [.ref a]) H) :
    FnE P w K mg base (k + 1) f (PySem.W.fnOf name qual params body scope dV kV doc pm an cdv ct) x sp := by
  refine ⟨fun A outer s H args Q a oe cls d hr hpin hz hf e0 hb hsp => ?_⟩
  have KX : K.In s.heap := e0.mod.kin.keeps fun b o e => (e0.bs b o e).1
  have lim : s.heap.NoLimit := e0.mod.nolimit.keeps fun b o e => (e0.bs b o e).1
  have hkind : ∀ y ∈ [(x, Value.ref a)], scope.names.lookup y.1 = some .local ∨ (scope.names.lookup y.1 = some .cell ∧ ((cellsFrom (s.heap.objs.size + 1) scope.names []).lookup y.1).isSome = true) := fun y hy => by
    have ey : y = (x, Value.ref a) := List.mem_singleton.mp hy
    rw [ey]
    rcases S.par x List.mem_cons_self with q | q
    · exact .inl q
    · exact .inr ⟨q, PySem.W.cellsFrom_some _ _ _ (.inl q)⟩
  refine codeAny_call_function hr.depth (KX _ _ lk) rfl S.co S.gen rfl (PySem.W.codeRec_of KX hcd) (hb _ _ _ _ ?_)
  refine wpAny_newFunctionEnv_cells S.kind hkind fun env he s1 y => ?_
  subst he
  refine ⟨lim.keeps y.toInCall.keep, codeAny_func ?_⟩
  obtain ⟨t, ht, hq⟩ := hbody A outer s H Q a oe cls d (hr.deeper _) hz hf hsp
  have I : Inv (L2H.cxH CX0 P w K mg base N qual scope f cdv A outer s H E0 (a, oe)) [] (L2.start N [.ref a]) H s1 := L2H.inv_startH (us := [.ref a]) S hpin e0 rfl (.cons rfl .nil) y
  refine wpAny_mono (ht.nox.run [] s1 (L2.start N [.ref a]) H _ I hq) (fun fl s' hs => ?_) fun e s' hs => hs
  have fin : ∀ {σ' : L2.St} {H' : Hp} {v : V} {u : Value}, Inv (L2H.cxH CX0 P w K mg base N qual scope f cdv A outer s H E0 (a, oe)) [] σ' H' s' → RelV v u → Q v H' → CE outer P w H s Q u s' :=
    fun {σ' H' v u} J rv q => ⟨v, H', J.os, J.bare, J.base, J.hok, rv, q⟩
  cases fl with
  | ret u =>
    obtain ⟨v, σ', H', J, rv, q⟩ := hs
    exact fin J rv q
  | next =>
    obtain ⟨σ', H', J, q⟩ := hs
    exact fin (v := V.non) (u := Value.none) J rfl q
  | brk =>
    obtain ⟨_, _, _, q⟩ := hs
    exact False.elim q
  | cont =>
    obtain ⟨_, _, _, q⟩ := hs
    exact False.elim q
structure CalE (P : Program) (w : World) (K : PySem.W.Frag) (mg : Str → Option Value) (base : Heap) (k : Nat) (x : Str) (ps : List Str) (sp : SpE) : Prop where
  ex : ∃ f fd y, ps = [y] ∧ mg x = some (.ref f) ∧ PySem.W.keepIn K (.ref f) = true ∧ Binds K fd [y] [] ∧ FnE P w K mg base k f fd y sp
theorem Src.calE {P : Program} {w : World} {K : PySem.W.Frag} {mg : Str → Option Value} {base : Heap} {x y : Str} {st : Stmt} {N : List Str} {k : Nat} {sp : SpE} (S : Src K mg x st) (sc : FnScope N [y] (defScope st)) (bn : BindP x st [y])
    (hbody : ∀ (f : Addr) (cdv : Value) (A : Around) (outer : List Env) (s : Shared) (H : Hp) (Q : VK) (a : Addr) (oe : Obj) (cls : Value) (d : Option Addr), L2H.RoomH k (A.deeper (envOfC x (defScope st) s.heap.objs.size f cdv)) → Zc cls d oe → (∃ vs, oe.data = .fields vs) → sp a cls d H Q →
      ∃ t, PSs (cxE P w K mg base N x (defScope st) f cdv A outer s H (a, oe)) (defBody st) t ∧ t { nx := fun _ H' => Q .non H', rt := Q } (L2.start N [.ref a]) H) : CalE P w K mg base (k + 1) x [y] sp := by
  obtain ⟨f, fd, g, F⟩ := S
  have b := F.bindsN bn
  have kp := F.kp
  obtain ⟨oc, od, dV, kV, doc, pm, an, cdv, ct, osl, rfl, lk, hcd, _, _⟩ := F.ex
  exact ⟨f, _, y, rfl, g, kp, b, fn_ofE lk hcd sc fun A outer s H Q a oe cls d hr hz hf hsp => hbody f cdv A outer s H Q a oe cls d hr hz hf hsp⟩
section
variable {X : Cx} {k : Nat} {x : Str} {ps : List Str} {sp : SpE} {p pos : Pos} {e : Expr} {te : TA} {a : Addr} {oe : Obj} {cls : Value} {d : Option Addr} {pn : List (Addr × Obj)}
def tCallE (a : Addr) (cls : Value) (d : Option Addr) (sp : SpE) (te : TA) : TE := fun σ H Q => te σ H fun vs H1 => vs = [.ref a] ∧ sp a cls d H1 Q
/-- f(err) in the suite -/
theorem pe_calE (C : CalE X.prog X.w X.K X.mg X.base k x ps sp) (hr : Room k X.A) (hz : Zc cls d oe) (hf : ∃ vs, oe.data = .fields vs) (ha : PA (X.suite a ((a, oe) :: pn)) [e] te) (hg : Gl (X.suite a ((a, oe) :: pn)) x := by rfl) (hdb : (x == ("__debug__" : Str)) = false := by decide)
    (hs : nostar e = true := by rfl) : PE (X.suite a ((a, oe) :: pn)) (.Call (.Name x p) [e] [] pos) (tCallE a cls d sp te) := by
  obtain ⟨f, fd, y, _, g, kp, b, F⟩ := C.ex
  refine ⟨fun pins s σ H Q I h => ?_⟩
  refine wpAny_Call_Name_kw (ld_glob I hg g ?_ hdb)
  refine PySem.W.callWith_K (h₀ := X.base) I.ok.mod.kin kp (thn (ha.run pos pins s σ H _ I h) fun us s1 ⟨vs, H1, I1, r, ev, q⟩ => ⟨I1.kIn, ?_⟩) (star_ok hs) rfl
  subst ev
  cases r with
  | cons rx rr =>
    cases rr
    cases rx
    have P1 := I1.pin (a, oe) (List.mem_append_left _ List.mem_cons_self)
    have hpin : L2H.PinOk X.stack H1 s1 (a, oe) := ⟨P1.1, P1.2.1, fun hm => (List.mem_cons.mp (I1.stkSub a hm)).elim P1.2.2.1 P1.2.2.2.1, P1.2.2.2.2⟩
    have bb := b s1 [.ref a] I1.kIn rfl
    refine wpAny_call (codeAny_mono (F.run (X.suite a ((a, oe) :: pn)).A X.stack s1 H1 ⟨[.ref a], []⟩ Q a oe cls d ⟨hr.dp, hr.un⟩ hpin hz hf I1.env0 bb q) fun r s' hq => ?_)
    cases r with
    | error e => exact False.elim hq
    | ok fl =>
      cases fl with
      | ret u => exact I1.after hq
      | next => exact False.elim hq
      | brk => exact False.elim hq
      | cont => exact False.elim hq
end
/-- isinstance(err, (C1, C2, ..)) -/
def rIsYT (K : PySem.W.Frag) (a : Addr) (cls : Value) (d : Option Addr) : List V → Hp → VK → Prop := fun xs H Q => ∃ tp, xs = [.ref a, .ref tp] ∧ ∃ D, cls = .ref D ∧ ∃ dd, d = some dd ∧ (∃ fs, H dd = some (.xd fs)) ∧ ExcC K D ∧
  ∃ cs, H tp = some (.tup cs) ∧ ∃ us, cs.map clsVal = us.map some ∧ ∃ b, PySem.W.kitAny K (.ref D) us = some b ∧ Q (.bl b) H
theorem cls_vals : ∀ {cs : List V} {us ws : List Value}, cs.map clsVal = us.map some → Vals cs ws → ws = us
  | [], [], _, _, .nil => rfl
  | [], _ :: _, _, h, _ => by cases h
  | _ :: _, [], _, h, _ => by cases h
  | c :: cs, u :: us, _, h, .cons r rr => by
    simp only [List.map_cons, List.cons.injEq] at h
    have e2 := cls_vals h.2 rr
    subst e2
    congr 1
    have h1 := h.1
    cases c with
    | ref C2 => cases h1; exact r
    | ty n => cases h1; exact r
    | _ => cases h1
theorem call_isYT {X : Cx} {a : Addr} {oe : Obj} {cls : Value} {d : Option Addr} (hp : (a, oe) ∈ X.pn) (hz : Zc cls d oe) (hf : ∃ vs, oe.data = .fields vs) : CallR X (.builtin "isinstance") (rIsYT X.K a cls d) := by
  intro pins s σ H xs us Q I r h
  obtain ⟨tp, rfl, D, rfl, dd, rfl, ⟨fs, hdd⟩, C, cs, hT, ws, hcs, b, e, q⟩ := h
  cases r with
  | cons rx rr =>
    cases rr with
    | cons rt rr =>
      cases rr
      cases rx
      cases rt
      obtain ⟨hget, _⟩ := I.pin (a, oe) (List.mem_append_left _ hp)
      obtain ⟨vs, hv⟩ := hf
      have hx : ObjOk X.prog X.w H s.heap dd (.xd fs) := I.hok dd _ hdd
      obtain ⟨mA, ⟨od, es, ep, ho, hrest⟩, hr⟩ := hx
      have J : PySem.W.InstAt s.heap a oe D (some od) := ⟨hget, hz.1, by unfold PySem.W.notCls; rw [hv] <;> rfl, by rw [hz.2]; exact ho⟩
      obtain ⟨_, its, rv, o, h1, h2, n, h3⟩ := (show ObjOk X.prog X.w H s.heap tp (.tup cs) from I.hok tp _ hT)
      have e3 := cls_vals hcs rv
      subst e3
      obtain ⟨oc, od2, dt, sl⟩ := o
      simp only at h2 h3
      subst h2 h3
      exact PySem.W.kia_tup (PySem.W.fx_kitx C.hg C.hk C.hs C.hd C.ha C.hn C.ht C.hm) I.kIn ⟨_, J⟩ h1 e (fun z => nomatch z) fun tk => ⟨.bl b, H, I.kept (t' := tk) fun _ _ z => z, rfl, q⟩
end Fx
namespace Fx
open PySem PySem.Spec PyProof.Rows L2
/-- // of any sign -/
def CDivZ (_ j : Int) : Prop := j ≠ 0 ∧ j.natAbs.log2 < 9000
section
variable {X : Cx}
theorem op_fdivZ : OpR X (binaryOp .FloorDiv) (rI CDivZ fun i j => .int (i.fdiv j)) := opI fun i j _ _ _ _ _ hc q => floordiv_int hc.1 q (.inl (PyProof.noPylong_of_log2 hc.2))
def rIntB : List V → Hp → VK → Prop := fun xs H Q => ∃ k, xs = [.bl k] ∧ Q (.int (if k = true then 1 else 0)) H
theorem int_B : CallR X (.type "int") rIntB := CallR.imp call_int1 fun xs H Q h => .inr h
/-- a callee that may raise, and does not -/
theorem passX : Passes (L2.CX X.prog X.w) X E0 := fun _ _ _ _ _ _ _ h => by
  obtain ⟨_, _, _, _, _, _, _, _, _, _, _, _, hE⟩ := h
  exact hE.elim
end
theorem cdivZ_of {i j : Int} (h0 : j ≠ 0) (h : j.natAbs < 2 ^ 64) : CDivZ i j := ⟨h0, Nat.lt_trans (PySem.Flt.log2_lt_of (by decide) h) (by decide)⟩
theorem Bag.ins {H : Hp} {b : Addr} (B : Bag H b) {a C dx : Addr} {fs : List (Str × V)} (h : H a = Option.some (.ins C dx fs)) : a ≠ b := by
  obtain ⟨c, ns, x, r, m, n, h1, _⟩ := B
  exact ne_of h h1 (by intro z; cases z)
theorem Kp.ins {H H1 : Hp} {b : Addr} (x : Kp b H H1) (B : Bag H b) {a C dx : Addr} {fs : List (Str × V)} (h : H a = Option.some (.ins C dx fs)) : H1 a = Option.some (.ins C dx fs) := x.keep _ _ (B.ins h) h
end Fx
namespace Fx
open PySem PySem.Spec PyProof.Rows L2
/-- isinstance(o, C), o an instance of an own class -/
def rIsI (K : PySem.W.Frag) : List V → Hp → VK → Prop := fun xs H Q => ∃ a c, xs = [.ref a, c] ∧ ∃ D dx fs, H a = some (.ins D dx fs) ∧ C8.InsC K D ∧ ∃ cv, clsVal c = some cv ∧ ∃ b, PySem.W.kitOne K (.ref D) cv = some b ∧ Q (.bl b) H
theorem is_I {X : Cx} : CallR X (.builtin "isinstance") (rIsI X.K) := by
  intro pins s σ H xs us Q I r h
  obtain ⟨a, c, rfl, D, dx, fs, ha, k, cv, hcv, b, hb, q⟩ := h
  obtain ⟨u, w', rfl, ru, rw'⟩ := vals2 r
  have e : w' = cv := by
    cases c with
    | ref C2 => cases hcv; exact rw'
    | ty n => cases hcv; exact rw'
    | _ => cases hcv
  subst e
  exact isinst_ok I ru (TyOf.ins ha k.cl k.ha k.hn k.htk k.hm) hb fun tk => ⟨.bl b, H, I.tok _, rfl, q⟩
def insB (K : PySem.W.Frag) (C : Addr) : Bool := decide (PySem.W.findIn K (.ref C) "__class__" = some (some (.builtin "object.__class__"))) && (decide (PySem.W.specialIn K (.builtin "object.__class__") "__get__" = some (some (.builtin "getset_descriptor.__get__"))) &&
  (decide (PySem.W.takesIn K (.builtin "object.__class__") = some true) && (decide (PySem.W.mroIn K C (.type "object") = some true) && decide (PySem.W.kitOne K (.ref C) (.ref C) = some true))))
theorem insC_of {K : PySem.W.Frag} {C : Addr} (cl : Cls K C) (h : insB K C = true) : C8.InsC K C := by
  obtain ⟨h1, h⟩ := He.ba h
  obtain ⟨h2, h⟩ := He.ba h
  obtain ⟨h3, h⟩ := He.ba h
  obtain ⟨h4, h5⟩ := He.ba h
  exact ⟨cl, of_decide_eq_true h1, of_decide_eq_true h2, of_decide_eq_true h3, of_decide_eq_true h4, of_decide_eq_true h5⟩
end Fx
namespace Fx
open PySem PySem.Spec PyProof.Rows L2
/-- the loop over a list or a tuple that stays, by an invariant -/
theorem forQ {K : PySem.W.Frag} {a : Addr} {xs : List V} {j : Nat} {g : TG} {tb : TS} {D : Ends} {σ : L2.St} {H : Hp} (hv : σ[j]? = some (some (.ref a))) (hq : Sq H a xs) (Pv : Nat → L2.St → Hp → Prop) (h0 : Pv 0 σ H) (hS : ∀ i σ H', Pv i σ H' → Same H H')
    (hs : ∀ i x σ H, xs[i]? = some x → Pv i σ H → g x σ H fun σ2 H2 => tb { D with nx := Pv (i + 1), ct := Pv (i + 1), bk := D.nx } σ2 H2) (hd : ∀ σ H, Pv xs.length σ H → D.nx σ H) : tFor (iQ K (tVar j)) g tb D σ H := by
  rcases hq with hq | hq
  · exact .inl ⟨_, hv, a, rfl, ⟨_, .inl (.inl hq)⟩, for_list (K := K) (a := a) (xs := xs) Pv h0 (fun i σ H' _ p => .inl (.inl (hS i σ H' p _ _ hq))) hs hd⟩
  · exact .inr ⟨_, hv, a, rfl, ⟨_, .inl (.inl hq)⟩, for_tup (K := K) (a := a) (xs := xs) Pv h0 (fun i σ H' _ p => .inl (.inl (hS i σ H' p _ _ hq))) hs hd⟩
end Fx
namespace Fx
open PySem PySem.Spec PyProof.Rows L2
/-- a statement first; what follows stays folded -/
theorem nxI {t : TS} {D : Ends} {σ : L2.St} {H : Hp} (h : ∀ K : L2.St → Hp → Prop, (∀ σ H, D.nx σ H → K σ H) → t { D with nx := K } σ H) : t D σ H := h D.nx fun _ _ x => x
end Fx
/-! Instances of own classes under the operators: len(o), o[i], x in o, o | p, o != p, list(o) -/
namespace PySem.W
open PySem PySem.Spec PySem.Calls PyProof.Rows
section
variable {prog : Program} {w : World} {A : Around} {E : Value → Shared → Prop} {s : Shared} {K : Frag} {x C L f : Addr} {h₀ : Heap} {m : Str → Option Value} {ox : Obj} {od : Option Obj} {b tb : Value}
theorem fx_ne_K {Q : Value → Shared → Prop} (hu : A.units + 1 < cLine) (F : Fr h₀ L s.heap m) (X₀ : K.In h₀) (I : InstAt s.heap x ox C od) (hb : Looks (model prog w) s.heap (typeOf b) tb) (hn : notFirst K C tb = true)
    (hs : findIn K (.ref C) "__ne__" = some (some (.builtin "object.__ne__"))) (hq : findIn K (.ref C) "__eq__" = some (some (.ref f))) (hf : isFn K (.ref f) = true) (ho : subIn K (.ref C) (.type "object") = some true)
    (h : wpAny (model prog w) A.in1 (call (.ref f) [.ref x, b]) (fun v s' => ∃ r, v = .bool r ∧ Q (.bool (!r)) s') E s) : wpAny (model prog w) A (richCompare .NotEq (.ref x) b) Q E s := by
  have X := X₀.keeps F.keep
  have fin : wpAny (model prog w) A (call (.builtin "object.__ne__") [.ref x, b]) (fun v s' => ∃ r, v = .bool r ∧ Q v s') E s := by
    refine wpAny_call (codeAny_call_builtin PySem.F.cmp_object.ne.plain PySem.F.cmpEntry_ne ?_)
    refine check_slot (i := "object.__ne__") (owner := "object") (n := "__ne__") PySem.F.cmpKind_ne PySem.F.cmpSplit_ne (I.type.andThen (looks_subIn X ho)) (PySem.F.cmpArgs_ne _ _) ?_
    unfold Builtin.«object.__ne__»
    refine wpAny_bind (wpAny_of_eq (a := ((Value.ref x : Value), [b])) (by first | rfl | (simp only [slotArgs]; rfl)) ?_)
    refine wpAny_bind (wpAny_cRoomFor (show A.in1.units < cLine from hu) ?_)
    refine wpAny_bind (ifBound_K X I hq hf (wpAny_mono h (fun v s' hv => ?_) fun _ _ e => e))
    obtain ⟨r, rfl, q⟩ := hv
    refine wpAny_bind (m := truthy (.bool r)) (wpAny_truthy_bool ?_)
    first | exact wpAny_pure ⟨_, rfl, ⟨_, rfl, q⟩⟩ | exact wpAny_pure ⟨_, rfl, q⟩ | exact wpAny_pure q
  have one : wpAny (model prog w) A (tryCompare (.ref x) "__ne__" b) (fun r s' => ∃ v, r = some v ∧ Q v s') E s := by
    unfold tryCompare
    have fin2 : wpAny (model prog w) A (call (.builtin "object.__ne__") ([.ref x] ++ [b]) >>= fun v => pure (some v)) (fun r s' => ∃ c, r = some (.bool c) ∧ Q (.bool c) s') E s := wpAny_bind (wpAny_mono fin (fun v s' hv => by
      obtain ⟨r, rfl, q⟩ := hv
      exact wpAny_pure ⟨_, rfl, q⟩) fun _ _ e => e)
    have two : wpAny (model prog w) A (callSpecialIfBound? (.ref x) "__ne__" [b]) (fun r s' => ∃ c, r = some (.bool c) ∧ Q (.bool c) s') E s := by
      simp only [callSpecialIfBound?, bindSpecialIfBound?]
      refine wpAny_holding (wpAny_bind (wpAny_bind (wpAny_bind (I.type.here ((looks_findIn X hs).here ?_)))))
      refine wpAny_bind (wpAny_askSetting (wpAny_ite ?_))
      split
      · rw [PySem.F.cmp_object.ne.bind]
        exact wpAny_bind (wpAny_pure (wpAny_pure (by exact fin2)))
      · rw [PySem.F.cmp_object.ne.bind]
        exact wpAny_tryCatch (wpAny_bind (wpAny_pure (wpAny_pure (by exact fin2))))
    refine wpAny_bind (wpAny_mono two (fun r s' hv => ?_) fun _ _ e => e)
    obtain ⟨c, rfl, q⟩ := hv
    exact wpAny_pure ⟨_, rfl, q⟩
  unfold richCompare
  simp only [oneThing_ref]
  refine wpAny_holding (wpAny_bind (wpAny_cRoomFor (Nat.lt_of_succ_lt hu) ?_))
  refine wpAny_bind (I.type.here (wpAny_bind (hb.here ?_)))
  split
  · rename_i q
    have e : subIn K tb (.ref C) = some false := by
      rcases Bool.or_eq_true_iff.mp hn with e | e
      · rw [beq_iff_eq.mp e] at q; simp at q
      · exact beq_iff_eq.mp e
    refine wpAny_bind ((looks_subIn X e).here ?_)
    simp only [Bool.false_eq_true, if_false]
    refine wpAny_bind (wpAny_mono one (fun r s' z => ?_) fun _ _ e => e)
    obtain ⟨v, rfl, hq⟩ := z
    exact wpAny_pure hq
  · refine wpAny_bind (wpAny_pure ?_)
    simp only [Bool.false_eq_true, if_false]
    refine wpAny_bind (wpAny_mono one (fun r s' z => ?_) fun _ _ e => e)
    obtain ⟨v, rfl, hq⟩ := z
    exact wpAny_pure hq
end
end PySem.W
namespace Fx
open PySem PySem.Spec PyProof.Rows L2
section
variable {X : Cx} {CX : CXT} {k : Nat} {C : Addr} {ps : List Str} {sp : Sp} {E : XK}
/-- the callee runs somewhere below -/
theorem run_fnA {A : Around} {f : Addr} {fd : FuncData} {pins : List (Addr × Obj)} {σ : L2.St} {H : Hp} {s : Shared} {Q : VK} {us : List Value} {vs : List V} (hA : A.frames = X.A.frames) (F : FnOk X.prog X.w X.K X.mg X.base CX k f fd ps sp) (hr : Room k A) (hb : Binds X.K fd ps []) (hx : Passes CX X E)
    (I : Inv X pins σ H s) (r : Vals vs us) (h : sp vs H Q E) : wpAny (model X.prog X.w) A (call (.ref f) us) (EP X pins σ Q) X.xe s := by
  have e0 : Env0 X.prog X.w X.K X.mg X.base A X.stack s H := by
    have e := I.env0
    exact ⟨by rw [hA]; exact e.frames, e.mod, e.bs, e.bsz, e.funs, e.frf, e.hok, e.bare⟩
  have hl : us.length = ps.length := by rw [← r.length]; exact F.len _ _ _ _ h
  have b := hb s us I.kIn (by rw [List.append_nil]; exact hl)
  rw [List.append_nil] at b
  refine wpAny_call (codeAny_mono (F.run A X.stack s H ⟨us, []⟩ us vs Q E hr e0 b r h) fun r s' hq => ?_)
  cases r with
  | error e => exact hx pins σ H s e s' I hq
  | ok fl =>
    cases fl with
    | ret u => exact I.after hq
    | next => exact False.elim hq
    | brk => exact False.elim hq
    | cont => exact False.elim hq
theorem inst_at {pins : List (Addr × Obj)} {σ : L2.St} {H : Hp} {s : Shared} {a dx : Addr} {fs : List (Str × V)} (I : Inv X pins σ H s) (ha : H a = some (.ins C dx fs)) : ∃ ox od, PySem.W.InstAt s.heap a ox C od := by
  obtain ⟨mA, J, _⟩ := ins_get I.hok ha
  obtain ⟨od, J, _⟩ := J.look
  exact ⟨_, _, J⟩
/-- len(o) -/
def rLenO (C : Addr) (sp : Sp) (E : XK) : List V → Hp → VK → Prop := fun xs H Q => ∃ a dx fs, xs = [.ref a] ∧ H a = some (.ins C dx fs) ∧ sp [.ref a] H (fun v H' => ∃ n, v = .int n ∧ 0 ≤ n ∧ n < 2 ^ 63 ∧ Q (.int n) H') E
theorem len_O (M : CalM X.prog X.w X.K X.mg X.base CX k C "__len__" ps sp) (hr : Room (k + 1) X.A) (hx : Passes CX X E) : CallR X (.builtin "len") (rLenO C sp E) := by
  intro pins s σ H xs us Q I rv h
  obtain ⟨a, dx, fs, rfl, ha, hsp⟩ := h
  obtain ⟨f, fd, m, b, F⟩ := M.ex
  obtain ⟨u, rfl, ru⟩ := rv.one
  cases ru
  obtain ⟨ox, od, J⟩ := inst_at I ha
  obtain ⟨mm, hF⟩ := I.fr
  refine PySem.W.len_K hF I.ok.mod.kin J m.at_ m.fn ?_
  refine wpAny_mono (run_fnA (A := X.A.in1) (vs := [.ref a]) (us := [.ref a]) rfl F hr.in1 b hx I (.cons rfl .nil) hsp) (fun v s' hv => ?_) fun _ _ z => z
  obtain ⟨z, H', I', rz, n, rfl, h0, h1, q⟩ := hv
  obtain ⟨t, rfl⟩ := rz
  exact ⟨⟨h0, h1⟩, .int n, H', I'.tok _, ⟨_, rfl⟩, q⟩
/-- x in o -/
def rInO (C : Addr) (sp : Sp) (E : XK) : R2 := fun x y H Q => ∃ a dx fs, y = .ref a ∧ H a = some (.ins C dx fs) ∧ sp [.ref a, x] H (fun v H' => ∃ r, v = .bl r ∧ Q (.bl r) H') E
def rNotInO (C : Addr) (sp : Sp) (E : XK) : R2 := fun x y H Q => ∃ a dx fs, y = .ref a ∧ H a = some (.ins C dx fs) ∧ sp [.ref a, x] H (fun v H' => ∃ r, v = .bl r ∧ Q (.bl (!r)) H') E
theorem in_O (M : CalM X.prog X.w X.K X.mg X.base CX k C "__contains__" ps sp) (hr : Room k X.A) (hx : Passes CX X E) : OpR X (compareOp .In) (rInO C sp E) := by
  intro pins s σ H x y v u Q I rx ry hq
  obtain ⟨f, fd, m, b, F⟩ := M.ex
  obtain ⟨a, dx, fs, rfl, ha, hsp⟩ := hq
  cases ry
  obtain ⟨ox, od, J⟩ := inst_at I ha
  obtain ⟨mm, hF⟩ := I.fr
  refine PySem.W.in_K hF I.ok.mod.kin J m.at_ m.fn ?_
  refine wpAny_mono (run_fnA (vs := [.ref a, x]) (us := [.ref a, v]) rfl F hr b hx I (.cons rfl (.cons rx .nil)) hsp) (fun v s' hv => ?_) fun _ _ z => z
  obtain ⟨z, H', I', rz, r, rfl, q⟩ := hv
  cases rz
  exact wpAny_truthy_bool ⟨.bl r, H', I', rfl, q⟩
theorem notIn_O (M : CalM X.prog X.w X.K X.mg X.base CX k C "__contains__" ps sp) (hr : Room k X.A) (hx : Passes CX X E) : OpR X (compareOp .NotIn) (rNotInO C sp E) := by
  intro pins s σ H x y v u Q I rx ry hq
  obtain ⟨f, fd, m, b, F⟩ := M.ex
  obtain ⟨a, dx, fs, rfl, ha, hsp⟩ := hq
  cases ry
  obtain ⟨ox, od, J⟩ := inst_at I ha
  obtain ⟨mm, hF⟩ := I.fr
  refine PySem.W.notIn_K hF I.ok.mod.kin J m.at_ m.fn ?_
  refine wpAny_mono (run_fnA (vs := [.ref a, x]) (us := [.ref a, v]) rfl F hr b hx I (.cons rfl (.cons rx .nil)) hsp) (fun v s' hv => ?_) fun _ _ z => z
  obtain ⟨z, H', I', rz, r, rfl, q⟩ := hv
  cases rz
  exact wpAny_truthy_bool ⟨.bl (!r), H', I', rfl, q⟩
/-- o op p, both of the class at C -/
def rBinO (C : Addr) (sp : Sp) (E : XK) : R2 := fun x y H Q => ∃ a b dx dy fs gs, x = .ref a ∧ y = .ref b ∧ H a = some (.ins C dx fs) ∧ H b = some (.ins C dy gs) ∧ sp [.ref a, .ref b] H (fun v H' => ∃ r, v = .ref r ∧ Q (.ref r) H') E
theorem bin_O {op : Operator} {mn : Str} (hop : PySem.dunder op.info.2 = mn) (M : CalM X.prog X.w X.K X.mg X.base CX k C mn ps sp) (hc : PySem.W.selfFirst X.K C = true) (hr : Room k X.A) (hx : Passes CX X E) : OpR X (binaryOp op) (rBinO C sp E) := by
  intro pins s σ H x y v u Q I rx ry hq
  obtain ⟨f, fd, m, b, F⟩ := M.ex
  obtain ⟨a, c, dx, dy, fs, gs, rfl, rfl, ha, hb, hsp⟩ := hq
  cases rx
  cases ry
  subst hop
  obtain ⟨ox, od, J⟩ := inst_at I ha
  obtain ⟨oy, od', J'⟩ := inst_at I hb
  obtain ⟨mm, hF⟩ := I.fr
  refine PySem.W.binop_K hF I.ok.mod.kin J J'.type hc m.at_ m.fn ?_
  refine wpAny_mono (run_fnA (vs := [.ref a, .ref c]) (us := [.ref a, .ref c]) rfl F hr b hx I (.cons rfl (.cons rfl .nil)) hsp) (fun v s' hv => ?_) fun _ _ z => z
  obtain ⟨z, H', I', rz, r, rfl, q⟩ := hv
  cases rz
  exact ⟨.ref r, H', I', rfl, q⟩
/-- o != p by the own __eq__ -/
def rNeO (C : Addr) (sp : Sp) (E : XK) : R2 := fun x y H Q => ∃ a b dx dy fs gs, x = .ref a ∧ y = .ref b ∧ H a = some (.ins C dx fs) ∧ H b = some (.ins C dy gs) ∧ sp [.ref a, .ref b] H (fun v H' => ∃ r, v = .bl r ∧ Q (.bl (!r)) H') E
def neB (K : PySem.W.Frag) (C : Addr) : Bool := decide (PySem.W.findIn K (.ref C) "__ne__" = some (some (.builtin "object.__ne__"))) && decide (PySem.W.subIn K (.ref C) (.type "object") = some true)
theorem ne_O (M : CalM X.prog X.w X.K X.mg X.base CX k C "__eq__" ps sp) (hn : neB X.K C = true) (hr : Room (k + 1) X.A) (hx : Passes CX X E) : OpR X (compareOp .NotEq) (rNeO C sp E) := by
  intro pins s σ H x y v u Q I rx ry hq
  obtain ⟨f, fd, m, b, F⟩ := M.ex
  obtain ⟨a, c, dx, dy, fs, gs, rfl, rfl, ha, hb, hsp⟩ := hq
  cases rx
  cases ry
  obtain ⟨h1, h2⟩ := He.ba hn
  obtain ⟨ox, od, J⟩ := inst_at I ha
  obtain ⟨oy, od', J'⟩ := inst_at I hb
  obtain ⟨mm, hF⟩ := I.fr
  show wpAny (model X.prog X.w) X.A (richCompare .NotEq (.ref a) (.ref c)) (EP X pins σ Q) X.xe s
  refine PySem.W.fx_ne_K (tb := .ref C) (by have := hr.un; omega) hF I.ok.mod.kin J J'.type (by simp [PySem.W.notFirst]) (of_decide_eq_true h1) m.at_ m.fn (of_decide_eq_true h2) ?_
  refine wpAny_mono (run_fnA (A := X.A.in1) (vs := [.ref a, .ref c]) (us := [.ref a, .ref c]) rfl F hr.in1 b hx I (.cons rfl (.cons rfl .nil)) hsp) (fun v s' hv => ?_) fun _ _ z => z
  obtain ⟨z, H', I', rz, r, rfl, q⟩ := hv
  cases rz
  exact ⟨r, rfl, .bl (!r), H', I', rfl, q⟩
/-- o[i] -/
def rIxO (C : Addr) (sp : Sp) (E : XK) : R2 := fun x y H Q => ∃ a dx fs, x = .ref a ∧ H a = some (.ins C dx fs) ∧ sp [.ref a, y] H Q E
def ixB (K : PySem.W.Frag) (C : Addr) : Bool := match PySem.W.findIn K (.ref C) "__getitem__" with
  | some (some (.ref f)) => PySem.W.fnIn K f
  | _ => false
theorem pe_ixO {ae be : Expr} {ta tb : TE} {pos : Pos} (M : CalM X.prog X.w X.K X.mg X.base CX k C "__getitem__" ps sp) (hr : Room (k + 1) X.A) (hx : Passes CX X E) (ha : PE X ae ta) (hb : PE X be tb)
    (hs : ∀ v u, subscripted be true v u = runValue (.builtin "lifetime.subscript" ⟨[v, u], []⟩)) (hfn : ixB X.K C = true) : PE X (.Subscript ae be pos) (tOp (rIxO C sp E) ta tb) := by
  obtain ⟨f, fd, m, b, F⟩ := M.ex
  refine ⟨fun pins s σ H Q I h => ?_⟩
  refine Subscript_ (binT ha hb I h fun v u s2 x y H2 I2 rx ry q => ?_)
  obtain ⟨a, dx, fs, rfl, hA, hsp⟩ := q
  cases rx
  obtain ⟨ox, od, J⟩ := inst_at I2 hA
  obtain ⟨mm, hF⟩ := I2.fr
  refine PySem.W.sub_K hF I2.ok.mod.kin J m.at_ (by unfold ixB at hfn; rw [m.at_] at hfn; exact hfn) m.fn ?_ (hs _ _)
  exact run_fnA (A := X.A.in1) (vs := [.ref a, y]) (us := [.ref a, u]) rfl F hr.in1 b hx I2 (.cons rfl (.cons ry .nil)) hsp
end
end Fx
namespace Fx
open PySem PySem.Spec PyProof.Rows L2
/-! ### a tuple whose object is known (its methods may be called) -/
def FT (H : Hp) (p : Addr) (xs : List V) : Prop := ∃ ob : Obj, H p = some (.frz ob (.tup xs)) ∧ ob.dict = none
theorem FT.same {H H' : Hp} {p : Addr} {xs : List V} (h : FT H p xs) (s : Same H H') : FT H' p xs := by
  obtain ⟨ob, h, d⟩ := h
  exact ⟨ob, s _ _ h, d⟩
theorem FT.kp {b : Addr} {H H' : Hp} {p : Addr} {xs : List V} (h : FT H p xs) (B : Bag H b) (k : Kp b H H') : FT H' p xs := by
  obtain ⟨ob, h, d⟩ := h
  refine ⟨ob, k.keep _ _ ?_ h, d⟩
  obtain ⟨kvs, hb⟩ := B.some
  exact ne_of h hb (by intro z; cases z)
theorem FT.sq {K : PySem.W.Frag} {H : Hp} {p : Addr} {xs : List V} (h : FT H p xs) : SqT K H p xs := by
  obtain ⟨ob, h, _⟩ := h
  exact .inl (.inr ⟨ob, h⟩)
section
variable {X : Cx}
/-- tuple(xs) -/
def rTupF : List V → Hp → VK → Prop := fun vs H Q => ∃ p, vs = [.ref p] ∧ ∃ ys, H p = some (.lst ys) ∧ ∀ l H', H l = none → Same H H' → FT H' l ys → Q (.ref l) H'
theorem tup_F : CallR X (.type "tuple") rTupF := by
  intro pins s σ H xs us Q I r h
  obtain ⟨p, rfl, ys, hp, q⟩ := h
  obtain ⟨u, rfl, rx⟩ := r.one
  cases rx
  obtain ⟨its, r', pl, hz⟩ := I.list (xs := ys) (.inl (.inl hp))
  have hlen := r'.length
  refine call_tuple_list pl.isList (fun h' kp => ?_) (by simp only [List.size_toArray] <;> omega)
  have I1 : Inv X pins σ H { s with heap := h' } := I.kept (t' := s.toks) kp
  have I2 : Inv X pins σ (upd H h'.objs.size (.frz { cls := .type "tuple", data := .seq its.toArray } (.tup ys))) { s with heap := h'.push { cls := .type "tuple", data := .seq its.toArray } } :=
    I1.laid (t' := s.toks) (fun b o e => Heap.get?_push_of_some _ e) (Nat.le_refl _) (show ObjOk X.prog X.w _ _ _ (.frz _ (.tup ys)) from ⟨Heap.get?_push_size _ rfl, hz, its, r', IsTup.new _ _⟩)
  have nl : H h'.objs.size = none := I1.hok.fresh (Nat.le_refl _)
  exact ⟨.ref h'.objs.size, _, I2, rfl, q _ _ nl (same_new nl) ⟨_, upd_same, rfl⟩⟩
end
end Fx
namespace Fx
open PySem PySem.Spec PyProof.Rows L2
/-! ### iter(t), t a tuple; list(o) of an instance whose __iter__ says iter(self.f) -/
def TItO (p it : Addr) (i : Nat) : HO := .ext fun h => h.IsTupleIter it p i
def EndO (it : Addr) : HO := .ext fun h => ∃ o, h.get? it = some o
theorem titO_ok {P : Program} {w : World} {H : Hp} {h : Heap} {p it : Addr} {i : Nat} (e : h.IsTupleIter it p i) : ObjOk P w H h it (TItO p it i) := ⟨e, let ⟨o, ho, _⟩ := e; ⟨o, ho⟩, fun h1 h2 q k => let ⟨o, ho, r⟩ := q; ⟨o, k _ ho, r⟩⟩
theorem endO_ok {P : Program} {w : World} {H : Hp} {h : Heap} {it : Addr} (e : ∃ o, h.get? it = some o) : ObjOk P w H h it (EndO it) := ⟨e, e, fun h1 h2 q k => let ⟨o, ho⟩ := q; ⟨o, k _ ho⟩⟩
section
variable {prog : Program} {w : World} {A : Around} {E : Value → Shared → Prop} {s : Shared}
theorem call_iterT0 {t : Addr} {items : Array Value} {Q : Value → Shared → Prop} (hl : s.heap.IsTuple t items) (h : Q (.ref s.heap.objs.size) { s with heap := s.heap.push { cls := .type "tuple_iterator", data := .fields #[.ref t, .int 0 0] } }) : wpAny (model prog w) A (call (.builtin "iter") [.ref t]) Q E s := by
  refine Calls.call_function_entry (by decide +kernel) (by decide +kernel) PySem.W.kdk_entry_iter (PySem.W.kdk_args_iter _) ?_
  unfold Builtin.«iter»
  refine wpAny_bind (m := someArgs "iter" 1 2 _) (wpAny_of_eq (a := [Value.ref t]) (by first | rfl | kernel_rfl!) ?_)
  show wpAny _ _ (pyIter (.ref t) >>= _) _ _ _
  refine wpAny_bind (wpAny_pyIter_tuple hl ?_)
  exact wpAny_pure ⟨_, rfl, h⟩
/-- the end, with the iterator still there -/
theorem next_tuple_end {it t : Addr} {i : Nat} {items : Array Value} {Q : Option Value → Shared → Prop} (hh : A.handled = none)
    (hit : s.heap.IsTupleIter it t i) (ht : s.heap.IsTuple t items) (hx : items[i]? = none)
    (hQ : ∀ h', Heap.ExtBut it s.heap h' → (∃ o, h'.get? it = some o) → Q none { s with heap := h' }) : wpAny (model prog w) A (pyNext (.ref it)) Q E s := by
  obtain ⟨o, ho, hc, hd⟩ := id hit
  obtain ⟨ol, hol, _, nl, hdl⟩ := ht
  unfold pyNext
  refine wpAny_bind (wpAny_attempt (wpAny_callSpecial?_slot (name := Str.ofString "__next__") hit.typeIs PySem.F.slot_tuple_iterator_next
    (wpAny_call_entry PySem.F.slot_tuple_iterator_next hit.typeIs PySem.F.entry_tuple_iterator_next ?_ (PySem.F.args_tuple_iterator_next_1 _))))
  show wpAny _ _ (field (.ref it) 0 >>= _) _ _ s
  refine wpAny_bind (wpAny_field ho hd (x := .ref t) rfl ?_)
  show wpAny _ _ (if (Value.ref t == Value.none) = true then _ else _) _ _ s
  rw [if_neg (show ¬ ((Value.ref t == Value.none) = true) from Bool.false_ne_true)]
  show wpAny _ _ (field (.ref it) 1 >>= _) _ _ s
  refine wpAny_bind (wpAny_field ho hd (x := .int i 0) rfl ?_)
  show wpAny _ _ (seqItems? (.ref t) >>= _) _ _ s
  refine wpAny_bind (wpAny_seqItems hol hdl ?_)
  simp only [Int.toNat_natCast, hx]
  refine wpAny_bind (wpAny_rule (wpAny_bind (wpAny_setField ho hd (by simp) ?_)))
  show wpAny _ _ (newExc (.type "StopIteration") [] >>= _) _ _ _
  refine wpAny_bind ?_
  simp only [newExc, newTuple]
  refine wpAny_bind (wpAny_newObj_type ?_ (by size_fits))
  refine wpAny_bind (m := firstArgMember _ _) (wpAny_of_eq (a := Value.none) (by first | rfl | (simp only [firstArgMember]; rfl)) ?_)
  refine wpAny_newObj_type ?_ (by size_fits)
  simp only [raiseNew]
  refine wpAny_bind (wpAny_handled ?_)
  first | rw [show A.in1.handled = none from hh] | rw [hh]
  refine wpAny_bind (wpAny_pure (wpAny_throw ?_))
  refine wpAny_bind (wpAny_isInstance (T := "StopIteration") (b := true) ⟨_, Heap.get?_push_size _ rfl, rfl⟩ isSubtype_stop ?_)
  refine wpAny_pure (hQ _ (((Heap.SameBut.update ..).extBut.push _).push _) ⟨_, Heap.get?_push_of_some _ (Heap.get?_push_of_some _ (Heap.get?_update_self _ ho (Obj.isFreed_of_fields (Obj.data_mapFields hd _))))⟩)
end
section
variable {X : Cx}
/-- iter(t) -/
def rIterT : List V → Hp → VK → Prop := fun xs H Q => ∃ t, xs = [.ref t] ∧ ∃ zs, FT H t zs ∧ ∀ it, H it = none → Q (.ref it) (upd H it (TItO t it 0))
theorem iter_T : CallR X (.builtin "iter") rIterT := by
  intro pins s σ H xs us Q I r h
  obtain ⟨t, rfl, zs, hq, q⟩ := h
  obtain ⟨u, rfl, ru⟩ := r.one
  cases ru
  obtain ⟨its, rv, pl, hz⟩ := I.tuple (xs := zs) hq.sq
  refine call_iterT0 pl ?_
  exact ⟨.ref s.heap.objs.size, _, I.laid (t' := s.toks) (fun b u e => Heap.get?_push_of_some _ e) (Nat.le_refl _) (titO_ok ⟨_, Heap.get?_push_size _ rfl, rfl, rfl⟩), rfl, q _ (I.hok.fresh (Nat.le_refl _))⟩
theorem upd_in {H : Hp} {a b : Addr} {o u v : HO} (h : a ≠ b) : upd (upd (upd H a o) b u) a v = upd (upd H a v) b u := by
  funext c
  unfold upd
  by_cases h1 : c = a
  · have h2 : c ≠ b := fun e => h (h1.symm.trans e)
    rw [if_pos h1, if_neg h2, if_pos h1]
  · rw [if_neg h1]
    by_cases h2 : c = b
    · rw [if_pos h2, if_pos h2]
    · rw [if_neg h2, if_neg h2, if_neg h1, if_neg h1]
variable {pins : List (Addr × Obj)} {σ : L2.St} {A1 : Around}
theorem tup_loop {H0 : Hp} {p it q : Addr} {ys : List V} {Rs : Result → Shared → Prop} (hh : A1.handled = none) (hiq : it ≠ q) (hpi : p ≠ it) (hpq : p ≠ q) (hp : FT H0 p ys) (hl : ys.length ≤ sizeLine)
    (hdone : ∀ s, Inv X pins σ (upd (upd H0 it (EndO it)) q (.lst ys)) s → Rs (.ok (.ret .none)) s) :
    ∀ (m i : Nat) (s : Shared), ys.length - i = m → i ≤ ys.length → Inv X pins σ (upd (upd H0 it (TItO p it i)) q (.lst (ys.take i))) s → codeAny (model X.prog X.w) A1 (.builtin "list.extend.loop" ⟨[.ref q, .ref it, .none], []⟩) Rs s := by
  intro m
  induction m with
  | zero =>
    intro i s hm hi I
    have ei : i = ys.length := by omega
    refine codeAny_builtin PySem.F.entry_extend_loop ?_
    rw [Around.under_plainId PySem.F.plain_extend_loop _]
    show wpAny _ A1.in1 (pyNext (.ref it) >>= _) _ _ s
    have hH : upd (upd H0 it (TItO p it i)) q (.lst (ys.take i)) it = some (TItO p it i) := by rw [upd_ne hiq, upd_same]
    have hP : FT (upd (upd H0 it (TItO p it i)) q (.lst (ys.take i))) p ys := by
      obtain ⟨ob, hp, hd⟩ := hp
      exact ⟨ob, by rw [upd_ne hpq, upd_ne hpi]; exact hp, hd⟩
    have hit : s.heap.IsTupleIter it p i := (I.hok it _ hH).1
    obtain ⟨its, rv, pl, hz⟩ := I.tuple (xs := ys) hP.sq
    refine wpAny_bind (next_tuple_end (A := A1.in1) hh hit pl (by rw [List.getElem?_toArray]; exact rv.none_of (by rw [ei]; exact List.getElem?_eq_none (Nat.le_refl _))) fun h' eb ex => ?_)
    refine wpAny_pure (hdone _ ?_)
    have mu : Mut (upd (upd H0 it (TItO p it i)) q (.lst (ys.take i)) it) := by rw [hH]; exact True.intro
    have I2 := I.write (x := it) (e := it) (t' := s.toks) mu (.inl rfl) (fun b o nb z => eb b o nb z) ex (endO_ok (H := upd (upd (upd H0 it (TItO p it i)) q (.lst (ys.take i))) it (EndO it)) ex)
    rw [upd_in hiq, ei, List.take_length] at I2
    exact I2
  | succ m ih =>
    intro i s hm hi I
    have hlt : i < ys.length := by omega
    refine codeAny_builtin PySem.F.entry_extend_loop ?_
    rw [Around.under_plainId PySem.F.plain_extend_loop _]
    show wpAny _ A1.in1 (pyNext (.ref it) >>= _) _ _ s
    have hH : upd (upd H0 it (TItO p it i)) q (.lst (ys.take i)) it = some (TItO p it i) := by rw [upd_ne hiq, upd_same]
    have hP : FT (upd (upd H0 it (TItO p it i)) q (.lst (ys.take i))) p ys := by
      obtain ⟨ob, hp, hd⟩ := hp
      exact ⟨ob, by rw [upd_ne hpq, upd_ne hpi]; exact hp, hd⟩
    have hit : s.heap.IsTupleIter it p i := (I.hok it _ hH).1
    obtain ⟨its, rv, pl, hz⟩ := I.tuple (xs := ys) hP.sq
    obtain ⟨u, hu, ru⟩ := rv.get (List.getElem?_eq_getElem hlt)
    refine wpAny_bind (wpAny_pyNext_tuple_item hit pl (x := u) (by rw [List.getElem?_toArray]; exact hu) fun h' e' sb => ?_)
    have mu : Mut (upd (upd H0 it (TItO p it i)) q (.lst (ys.take i)) it) := by rw [hH]; exact True.intro
    have ex : ∃ o, h'.get? it = some o := let ⟨o, ho, _⟩ := e'; ⟨o, ho⟩
    have I2 := I.write (x := it) (e := it) (t' := s.toks) mu (.inl rfl) (fun b o nb z => (sb.2 b nb).trans z) ex (titO_ok (H := upd (upd (upd H0 it (TItO p it i)) q (.lst (ys.take i))) it (TItO p it (i + 1))) e')
    rw [upd_in hiq] at I2
    have hq2 : upd (upd H0 it (TItO p it (i + 1))) q (.lst (ys.take i)) q = some (.lst (ys.take i)) := upd_same
    obtain ⟨z, its2, k, r2, hl2, e2⟩ := I2.lstM hq2
    show wpAny _ A1.in1 (updateSeq q (·.push u) >>= _) _ _ _
    have lt : (ys.take i).length = i := by rw [List.length_take]; omega
    refine wpAny_bind (wpAny_updateSeq e2 rfl (wpAny_pure ⟨plainId_quiet PySem.F.plain_extend_loop _, ?_⟩) (by rw [List.size_toArray]; omega) (by show (its2.toArray.push u).size ≤ sizeLine + 1; rw [Array.size_push, List.size_toArray]; omega))
    have I3 := I2.lset (f := (·.push u)) (its' := its2 ++ [u]) (ys := ys.take i ++ [ys[i]]) (t' := s.toks) hq2 e2 (by simp) (r2.append (.cons ru .nil)) (by rw [List.length_append, List.length_singleton]; omega)
    rw [upd_upd, List.take_append_getElem hlt] at I3
    exact ih (i + 1) _ (by omega) hlt I3
end
end Fx
namespace Fx
open PySem PySem.Spec PyProof.Rows L2
section
variable {X : Cx} {k : Nat} {C : Addr} {psI psL : List Str} {spI spL : Sp}
theorem run_fn0 {A : Around} {f : Addr} {fd : FuncData} {ps : List Str} {sp : Sp} {E' : Value → Shared → Prop} {pins : List (Addr × Obj)} {σ : L2.St} {H : Hp} {s : Shared} {Q : VK} {us : List Value} {vs : List V} (hA : A.frames = X.A.frames) (F : FnOk X.prog X.w X.K X.mg X.base CX0 k f fd ps sp) (hr : Room k A) (hb : Binds X.K fd ps [])
    (I : Inv X pins σ H s) (r : Vals vs us) (h : sp vs H Q E0) : wpAny (model X.prog X.w) A (call (.ref f) us) (EP X pins σ Q) E' s := by
  have e0 : Env0 X.prog X.w X.K X.mg X.base A X.stack s H := by
    have e := I.env0
    exact ⟨by rw [hA]; exact e.frames, e.mod, e.bs, e.bsz, e.funs, e.frf, e.hok, e.bare⟩
  have hl : us.length = ps.length := by rw [← r.length]; exact F.len _ _ _ _ h
  have b := hb s us I.kIn (by rw [List.append_nil]; exact hl)
  rw [List.append_nil] at b
  refine wpAny_call (codeAny_mono (F.run A X.stack s H ⟨us, []⟩ us vs Q E0 hr e0 b r h) fun r s' hq => ?_)
  cases r with
  | error e => exact False.elim hq
  | ok fl =>
    cases fl with
    | ret u => exact I.after hq
    | next => exact False.elim hq
    | brk => exact False.elim hq
    | cont => exact False.elim hq
/-- the own __len__ tells the length ahead of the filling -/
theorem own_hintL {A : Around} {pins : List (Addr × Obj)} {σ : L2.St} {H : Hp} {s : Shared} {a dx : Addr} {fs : List (Str × V)} {Q : Bool → Shared → Prop} (hA : A.frames = X.A.frames) (M : CalM X.prog X.w X.K X.mg X.base CX0 k C "__len__" psL spL) (hr : Room (k + 1) A) (I : Inv X pins σ H s) (ha : H a = some (.ins C dx fs))
    {R : Hp → Prop} (hsp : spL [.ref a] H (fun v H' => ∃ n, v = .int n ∧ 0 ≤ n ∧ n ≤ 1000000 ∧ R H') E0) (hq : ∀ b H' s', Inv X pins σ H' s' → R H' → Q b s') : wpAny (model X.prog X.w) A (Builtin.List.listLengthHint (.ref a)) Q X.xe s := by
  obtain ⟨f, fd, m, b, F⟩ := M.ex
  obtain ⟨ox, od, J⟩ := inst_at I ha
  obtain ⟨mm, hF⟩ := I.fr
  unfold Builtin.List.listLengthHint
  refine wpAny_bind (wpAny_bind (J.type.here ((PySem.W.looks_findIn I.kIn m.at_).here ?_)))
  refine PySem.W.KFB.if_not rfl ?_
  refine PySem.W.KFB.if_so rfl ?_
  refine wpAny_bind (wpAny_rule ?_)
  refine wpAny_bind (wpAny_attempt (PySem.W.len_K hF I.ok.mod.kin J m.at_ m.fn ?_))
  refine wpAny_mono (run_fn0 (E' := fun _ _ => False) (A := A.in1) (vs := [.ref a]) (us := [.ref a]) hA F hr.in1 b I (.cons rfl .nil) hsp) (fun v s' hv => ?_) fun _ _ z => z.elim
  obtain ⟨z, H', I', rz, n, rfl, h0, h1, r⟩ := hv
  obtain ⟨t, rfl⟩ := rz
  refine ⟨⟨h0, by omega⟩, ?_⟩
  have tl : Builtin.List.listTooLong n.toNat = false := by
    unfold Builtin.List.listTooLong
    rw [decide_eq_false_iff_not, sizeLine_eq]
    omega
  show wpAny _ _ (asInt? (.int n _) >>= _) _ _ _
  refine wpAny_bind (wpAny_of_eq (a := some n) (by first | rfl | (simp only [asInt?]; rfl)) ?_)
  refine PySem.W.KFB.if_not tl ?_
  exact wpAny_pure (hq _ H' _ (I'.tok _) r)
/-- list(o) -/
def rListO (C : Addr) (spI spL : Sp) : List V → Hp → VK → Prop := fun xs H Q => ∃ a, xs = [.ref a] ∧ ∃ dx fs, H a = some (.ins C dx fs) ∧ ∀ q, H q = none → spI [.ref a] (upd H q (.lst [])) (fun v H1 => ∃ it, v = .ref it ∧ ∃ p, H1 it = some (TItO p it 0) ∧ ∃ dx fs, H1 a = some (.ins C dx fs) ∧
  spL [.ref a] H1 (fun v2 H2 => ∃ n, v2 = .int n ∧ 0 ≤ n ∧ n ≤ 1000000 ∧ H2 it = some (TItO p it 0) ∧ H2 q = some (.lst []) ∧ ∃ ys, FT H2 p ys ∧ Q (.ref q) (upd (upd H2 it (EndO it)) q (.lst ys))) E0) E0
theorem list_O (MI : CalM X.prog X.w X.K X.mg X.base CX0 k C "__iter__" psI spI) (ML : CalM X.prog X.w X.K X.mg X.base CX0 k C "__len__" psL spL) (hc : X.calm = true) (hr : Room (k + 3) X.A) : CallR X (.type "list") (rListO C spI spL) := by
  intro pins s σ H xs us Q I rv h
  obtain ⟨a, rfl, dx, fs, ha, hq⟩ := h
  obtain ⟨u, rfl, ru⟩ := rv.one
  cases ru
  refine callType_codes (Q₁ := fun obj s₁ => obj = .ref s.heap.objs.size ∧ s₁ = { s with heap := s.heap.push { cls := .type "list", data := .seq #[] } }) PySem.F.called_list (PySem.F.typeCall_list_1 _) PySem.F.entry_list_init
    (code_list_new _ ⟨rfl, rfl⟩) fun obj s₁ h₁ => ?_
  obtain ⟨rfl, rfl⟩ := h₁
  have hS : (s.heap.push { cls := .type "list", data := .seq #[] }).get? s.heap.objs.size = some { cls := .type "list", data := .seq #[] } := Heap.get?_push_size _ rfl
  refine ⟨⟨_, hS, rfl⟩, PySem.F.args_list_init_2 _ _, ?_⟩
  have fr : H s.heap.objs.size = none := I.hok.fresh (Nat.le_refl _)
  have hq := hq _ fr
  have I1 : Inv X pins σ (upd H s.heap.objs.size (.lst [])) { s with heap := s.heap.push { cls := .type "list", data := .seq #[] } } := I.lnew (its := []) (t' := s.toks) .nil (Nat.zero_le _)
  show wpAny _ _ (do let old ← Builtin.List.listItems (.ref s.heap.objs.size); Builtin.List.listUpdate (.ref s.heap.objs.size) (fun _ => #[]); letGo old.toList.reverse; Builtin.List.listExtendWith (.ref s.heap.objs.size) (.ref a) .none) _ _ _
  refine wpAny_bind ?_
  unfold Builtin.List.listItems
  refine wpAny_bind (wpAny_seqItems hS rfl (wpAny_pure ?_))
  show wpAny _ _ (updateSeq s.heap.objs.size (fun _ => #[]) >>= fun _ => letGo (#[] : Array Value).toList.reverse >>= fun _ => Builtin.List.listExtendWith (.ref s.heap.objs.size) (.ref a) .none) _ _ _
  refine wpAny_bind (wpAny_updateSeq hS rfl ?_)
  have I2 := I1.lset (f := fun _ => #[]) (its := []) (its' := []) (ys := []) (t' := s.toks) upd_same hS rfl .nil (Nat.zero_le _)
  rw [upd_upd] at I2
  refine wpAny_bind (wpAny_letGo ?_)
  have ha2 : upd H s.heap.objs.size (.lst []) a = some (.ins C dx fs) := by rw [upd_ne (ne_of_none ha fr)]; exact ha
  generalize s.heap.objs.size = q at *
  have hne : q ≠ a := fun e => by
    rw [e, ha] at fr
    cases fr
  obtain ⟨fi, fdi, mi, bi, Fi⟩ := MI.ex
  obtain ⟨ox, od, J⟩ := inst_at I2 ha2
  obtain ⟨mm, hF⟩ := I2.fr
  have hr1 : Room k X.A.in1.in1 := (Room.in1 (Room.in1 hr)).mono (Nat.le_succ _)
  unfold Builtin.List.listExtendWith
  refine wpAny_bind (J.type.here ?_)
  have h1 : Builtin.List.listSameRef (.ref q) (.ref a) = false := by simp [Builtin.List.listSameRef, hne]
  have h2 : (Value.ref C == Value.type "list") = false := rfl
  have h3 : (Value.ref C == Value.type "tuple") = false := rfl
  simp only [h1, h2, h3, Bool.or_false, Bool.false_eq_true, if_false]
  refine wpAny_bind (PySem.W.owit_iter hF I2.ok.mod.kin J mi.at_ mi.fn ?_)
  refine wpAny_mono (run_fn0 (E' := fun _ _ => False) (A := X.A.in1.in1) (vs := [.ref a]) (us := [.ref a]) rfl Fi hr1 bi I2 (.cons rfl .nil) hq) (fun v s' hv => ?_) fun _ _ z => z.elim
  obtain ⟨z, H1, I3, rz, it, rfl, p, hit, dx1, fs1, ha3, hsp⟩ := hv
  cases rz
  have hit0 : s'.heap.IsTupleIter it p 0 := (I3.hok it _ hit).1
  unfold PySem.W.OwitIt
  refine wpAny_specialOf (name := Str.ofString "__next__") hit0.typeIs PySem.F.slot_tuple_iterator_next.lookup ?_
  refine wpAny_bind (wpAny_holding ?_)
  refine own_hintL (A := X.A.in1.in1) rfl ML ((Room.in1 (Room.in1 hr))) I3 ha3 (R := fun H2 => H2 it = some (TItO p it 0) ∧ H2 q = some (.lst []) ∧ ∃ ys, FT H2 p ys ∧ Q (.ref q) (upd (upd H2 it (EndO it)) q (.lst ys))) hsp (fun room H2 s2 I4 hR => ?_)
  obtain ⟨hi2, hq2, ys, hp2, hQ⟩ := hR
  have hiq : it ≠ q := ne_of hi2 hq2 (by unfold TItO; intro z; cases z)
  obtain ⟨obp, hpp, hpd⟩ := id hp2
  have hpi : p ≠ it := ne_of hpp hi2 (by unfold TItO; intro z; cases z)
  have hpq : p ≠ q := ne_of hpp hq2 (by intro z; cases z)
  have hl : ys.length ≤ sizeLine := (I4.hok p _ hpp).2.1
  have e0 : upd (upd H2 it (TItO p it 0)) q (.lst (ys.take 0)) = H2 := by
    funext c
    unfold upd
    by_cases h1 : c = q
    · rw [if_pos h1, h1]
      exact hq2.symm
    · rw [if_neg h1]
      by_cases h2 : c = it
      · rw [if_pos h2, h2]
        exact hi2.symm
      · rw [if_neg h2]
  have go : ∀ s3, Inv X pins σ H2 s3 → codeAny (model X.prog X.w) X.A.in1 (.builtin "list.extend.loop" ⟨[.ref q, .ref it, .none], []⟩) (wants (fun r s₂ => r = .none ∧ EP X pins σ Q (.ref q) s₂) X.xe) s3 := fun s3 I5 =>
    tup_loop (A1 := X.A.in1) (H0 := H2) (show X.A.in1.handled = none from I5.ok.hd hc) hiq hpi hpq hp2 hl (fun s4 I6 => ⟨rfl, .ref q, _, I6, rfl, hQ⟩) ys.length 0 s3 (by omega) (Nat.zero_le _) (by rw [e0]; exact I5)
  obtain ⟨z, its, kk, r3, hl3, e3⟩ := I4.lstM hq2
  cases r3
  refine wpAny_ite_split (fun _ => ?_) (fun _ => wpAny_pure ⟨plainId_quiet PySem.F.plain_extend_loop _, go _ I4⟩)
  refine wpAny_bind (wpAny_rule ?_)
  refine wpAny_bind ?_
  show wpAny _ _ (updateSeq q (·.push .none) >>= fun _ => updateSeq q (·.pop)) _ _ _
  refine wpAny_bind (wpAny_updateSeq e3 rfl ?_)
  have J2 := I4.lset (f := (·.push Value.none)) (its' := [Value.none]) (ys := [.non]) (t' := s2.toks) hq2 e3 (by simp) (.cons rfl .nil) (by rw [List.length_singleton, sizeLine_eq]; decide)
  obtain ⟨z4, its4, k4, r4, hl4, e4⟩ := J2.lstM upd_same
  obtain ⟨u4, rfl, ru4⟩ := r4.one
  refine wpAny_updateSeq e4 rfl ?_ (by show 1 ≤ sizeLine; rw [sizeLine_eq]; decide) (by show 0 ≤ sizeLine + 1; exact Nat.zero_le _)
  refine wpAny_pure ⟨plainId_quiet PySem.F.plain_extend_loop _, go _ ?_⟩
  have J3 := J2.lset (f := (·.pop)) (its := [u4]) (its' := []) (ys := []) (t' := s2.toks) upd_same e4 (by rfl) .nil (Nat.zero_le _)
  rw [upd_upd] at J3
  have hH : upd H2 q (.lst []) = H2 := by
    funext b
    by_cases hb : b = q
    · rw [hb, upd_same, hq2]
    · rw [upd_ne hb]
  rw [hH] at J3
  exact J3
end
end Fx
namespace Fx
open PySem PySem.Spec PyProof.Rows L2
/-! ### __init__ with one default -/
structure CalID (P : Program) (w : World) (K : PySem.W.Frag) (mg : Str → Option Value) (base : Heap) (CX : CXT) (k : Nat) (C : Addr) (ps : List Str) (dv : V) (sp : Sp) : Prop where
  ex : ∃ f fd ds, Mk K C f ∧ Binds K fd ps [] ∧ Vals [dv] ds ∧ Binds K fd ps ds ∧ FnOk P w K mg base CX k f fd ps sp
section
variable {P : Program} {w : World} {K : PySem.W.Frag} {mg : Str → Option Value} {base : Heap} {CX : CXT} {k : Nat} {C : Addr} {ps : List Str} {dv : V} {sp : Sp}
theorem CalID.full (M : CalID P w K mg base CX k C ps dv sp) : CalI P w K mg base CX k C ps sp := by
  obtain ⟨f, fd, ds, m, b, _, _, F⟩ := M.ex
  exact ⟨f, fd, m, b, F⟩
/-- how its parameters are bound: all are given; the last one lacks -/
abbrev BindD (x q : Str) (st : Stmt) (ps : List Str) (n j : Nat) : Prop := ∀ (T : Addr) (kV doc pm : Value) (an : Option Addr) (cdv ct : Value) (us its : List Value), us.length = n → its.length = 1 →
  ∃ k, bindArgs (PySem.W.fnOf x q (defArgs st) (defBody st) (defScope st) (.ref T) kV doc pm an cdv ct) ⟨us, []⟩ = seqItems? (.ref T) >>= k ∧ k (some its.toArray) = pure (ps.zip (us ++ its.drop j))
theorem calID_of {x q : Str} {st : Stmt} {f : Addr} {fd : FuncData} (F : FunD K x q (defArgs st) (defBody st) (defScope st) [dv] [] f fd) (M : Mk K C f) (n : Nat) (hn : n + 1 = ps.length) (b1 : BindD x q st ps (n + 1) 1) (b0 : BindD x q st ps n 0) (ok : FnOk P w K mg base CX k f fd ps sp) : CalID P w K mg base CX k C ps dv sp := by
  obtain ⟨ds1, v1, B1⟩ := F.binds1 (ps := ps) (n + 1) 1 (by simp) (by simpa using hn) b1
  obtain ⟨ds0, v0, B0⟩ := F.binds1 (ps := ps) n 0 (by simp) (by simpa using hn) b0
  have e : ds1 = [] := by
    cases v1
    rfl
  subst e
  exact ⟨f, fd, ds0, M, B1, v0, B0, ok⟩
theorem ok0D {x qual : Str} {st : Stmt} {N : List Str} {dvs : List V} {f : Addr} {fd : FuncData} (F : FunD K x qual (defArgs st) (defBody st) (defScope st) dvs [] f fd) (sc : FnScope N ps (defScope st)) (len : ∀ vs H Q E, sp vs H Q E → vs.length = ps.length)
    (hbody : ∀ (f : Addr) (cdv : Value) (A : Around) (outer : List Env) (s : Shared) (H : Hp) (vs : List V) (Q : VK) (E : XK), Room k (A.deeper (envOfC qual (defScope st) s.heap.objs.size f cdv)) → sp vs H Q E →
      ∃ t, PSs (cxOf CX0 P w K mg base N qual (defScope st) f cdv A outer s H E).nox (defBody st) t ∧ t { nx := fun _ H' => Q .non H', rt := Q } (L2.start N vs) H) : FnOk P w K mg base CX0 (k + 1) f fd ps sp := by
  refine F.ok sc len fun cdv A outer s H vs Q E hr hsp => ?_
  obtain ⟨t, h, q⟩ := hbody f cdv A outer s H vs Q E hr hsp
  exact ⟨t, h.nox, q⟩
theorem okXD {x qual : Str} {st : Stmt} {N : List Str} {dvs : List V} {f : Addr} {fd : FuncData} (F : FunD K x qual (defArgs st) (defBody st) (defScope st) dvs [] f fd) (sc : FnScope N ps (defScope st)) (len : ∀ vs H Q E, sp vs H Q E → vs.length = ps.length)
    (hbody : ∀ (f : Addr) (cdv : Value) (A : Around) (outer : List Env) (s : Shared) (H : Hp) (vs : List V) (Q : VK) (E : XK), Room k (A.deeper (envOfC qual (defScope st) s.heap.objs.size f cdv)) → sp vs H Q E →
      ∃ t, PSs (cxOf (L2.CX P w) P w K mg base N qual (defScope st) f cdv A outer s H E) (defBody st) t ∧ t { nx := fun _ H' => Q .non H', rt := Q } (L2.start N vs) H) : FnOk P w K mg base (L2.CX P w) (k + 1) f fd ps sp :=
  F.ok sc len fun cdv A outer s H vs Q E hr hsp => hbody f cdv A outer s H vs Q E hr hsp
end
section
variable {X : Cx} {x : Str} {C : Addr} {ps : List Str} {dv : V} {sp : Sp} {k : Nat} {CX : CXT} {E : XK} {e : Expr} {es : List Expr} {t : TA} {p pos : Pos}
/-- C(e, ..), the last one by its default -/
theorem pe_mkD (M : CalID X.prog X.w X.K X.mg X.base CX k C ps dv sp) (hr : Room (k + 1) X.A) (hm : X.mg x = some (.ref C)) (hx : Passes CX X E) (ha : PA X (e :: es) t) (hg : Gl X x := by rfl) (hdb : (x == ("__debug__" : Str)) = false := by decide)
    (hs : (e :: es).all nostar = true := by rfl) : PE X (.Call (.Name x p) (e :: es) [] pos) (tMake C sp [dv] E t) := by
  obtain ⟨f, fd, ds, m, _, vd, b, F⟩ := M.ex
  simp only [List.all_cons, Bool.and_eq_true] at hs
  exact pe_make m F hr hg hm b vd hx ha hdb (star_ok hs.1) (back_ok hs.2)
theorem pe_mkD0 (M : CalID X.prog X.w X.K X.mg X.base CX k C ps dv sp) (hr : Room (k + 1) X.A) (hm : X.mg x = some (.ref C)) (hx : Passes CX X E) (hg : Gl X x := by rfl) (hdb : (x == ("__debug__" : Str)) = false := by decide) : PE X (.Call (.Name x p) [] [] pos) (tMake C sp [dv] E tNil) := by
  obtain ⟨f, fd, ds, m, _, vd, b, F⟩ := M.ex
  exact pe_make0 m F hr hg hm b vd hx hdb
end
end Fx
/-! Lists and tuples of texts: sorted, in, index; list(dict) -/
namespace Fx
open PySem PySem.Spec PyProof.Rows L2
abbrev ms (l : List Str) : List V := l.map V.str
section
variable {X : Cx}
/-- sorted(xs), texts, any number of them -/
def rSortS : List V → Hp → VK → Prop := fun vs H Q => ∃ a, vs = [V.ref a] ∧ ∃ xs : List Str, H a = some (.lst (ms xs)) ∧ ∀ (ys : List Str) (p : Addr), ys.Perm xs → sortedS ys = true → H p = none → Q (.ref p) (upd H p (.lst (ms ys)))
theorem sort_S : CallR X (.builtin "sorted") rSortS := by
  intro pins s σ H vs us Q I r h
  obtain ⟨a, rfl, xs, hs, q⟩ := h
  obtain ⟨its, rv, hl, hz⟩ := I.list (xs := ms xs) (.inl (.inl hs))
  obtain ⟨u, rfl, ru⟩ := r.one
  cases ru
  have hlen0 := rv.length
  rw [List.length_map] at hlen0
  have hz2 : xs.length ≤ sizeLine := by
    have := hz
    rw [List.length_map] at this
    exact this
  refine PyProof.Rows.sorted_strsAny hl.isList rv.strs (by rw [← hlen0]; exact hz2) fun out ys h1 h2 h3 => ?_
  obtain ⟨ep, he'⟩ := PyProof.Rows.sortedAll_at s.heap its out
  have hlen : (ms ys).length ≤ sizeLine := by rw [List.length_map, h2.length_eq]; exact hz2
  exact ⟨.ref _, upd H (s.heap.objs.size + 1) (.lst (ms ys)), I.laid (t' := s.toks) (fun _ _ => PyProof.Rows.sortedAll_old) (Nat.le_succ _) ⟨hlen, out.toList, ep, vals_of_strs h1, he'⟩, rfl, q ys _ h2 h3 (I.hok.fresh (Nat.le_succ _))⟩
theorem flat_ms (l : List Str) : (ms l).all flatV = true := by
  rw [List.all_map]
  exact List.all_eq_true.mpr fun _ _ => rfl
theorem in_ms (z : Str) (l : List Str) : inV (.str z) (ms l) = decide (z ∈ l) := by
  unfold inV
  rw [List.any_map]
  induction l with
  | nil => rfl
  | cons x l ih =>
    rw [List.any_cons, ih]
    show ((x == z) || _) = _
    by_cases e : x = z
    · subst e
      simp
    · have e2 : ¬ z = x := fun h => e h.symm
      simp [e, e2]
/-- z in a list or tuple of texts -/
def rInS (neg : Bool) : R2 := fun x y H Q => ∃ z p, x = .str z ∧ y = .ref p ∧ ∃ l : List Str, Sq H p (ms l) ∧ Q (.bl (if neg = true then !decide (z ∈ l) else decide (z ∈ l))) H
theorem in_S : OpR X (compareOp .In) (rInS false) := by
  intro pins s σ H x y v u Q I rx ry h
  obtain ⟨z, p, rfl, rfl, l, hq, q⟩ := h
  refine op_in_seq pins s σ H _ _ v u Q I rx ry ⟨p, ms l, rfl, hq.elim (fun h => .inl (.inl (.inl h))) (fun h => .inr (.inl (.inl h))), rfl, flat_ms l, ?_⟩
  rw [in_ms]
  exact q
theorem notIn_S : OpR X (compareOp .NotIn) (rInS true) := by
  intro pins s σ H x y v u Q I rx ry h
  obtain ⟨z, p, rfl, rfl, l, hq, q⟩ := h
  refine op_notIn_seq pins s σ H _ _ v u Q I rx ry ⟨p, ms l, rfl, hq.elim (fun h => .inl (.inl (.inl h))) (fun h => .inr (.inl (.inl h))), rfl, flat_ms l, ?_⟩
  rw [in_ms]
  exact q
/-- l.index(z): the first place -/
theorem first_at {z : Str} : ∀ {l : List Str}, z ∈ l → ∃ j, l[j]? = some z ∧ (∀ m, m < j → l[m]? ≠ some z) ∧ j = l.idxOf z
  | x :: l, h => by
    by_cases e : x = z
    · subst e
      exact ⟨0, rfl, fun m hm => absurd hm (Nat.not_lt_zero _), by simp⟩
    · have h' : z ∈ l := (List.mem_cons.mp h).resolve_left fun k => e k.symm
      obtain ⟨j, h1, h2, h3⟩ := first_at h'
      refine ⟨j + 1, by simpa using h1, fun m hm => ?_, ?_⟩
      · cases m with
        | zero => simpa using e
        | succ m => simpa using h2 m (by omega)
      · have e2 : (x == z) = false := by simpa using e
        rw [List.idxOf_cons, e2, h3]
        rfl
def rIdxT : V → List V → Hp → VK → Prop := fun x xs H Q => ∃ p z, x = .ref p ∧ xs = [.str z] ∧ ∃ l : List Str, H p = some (.tup (ms l)) ∧ z ∈ l ∧ Q (.int (l.idxOf z : Nat)) H
theorem idx_T : MtR X "tuple.index" rIdxT := by
  intro pins s σ H x xs v us Q I rx rxs h
  obtain ⟨p, z, rfl, rfl, l, hp, hm, q⟩ := h
  obtain ⟨j, h1, h2, rfl⟩ := first_at hm
  exact mt_tup_index pins s σ H _ _ v us Q I rx rxs ⟨p, l, z, _, rfl, rfl, .inl (.inl hp), h1, h2, q⟩
def rIdxL : V → List V → Hp → VK → Prop := fun x xs H Q => ∃ p z, x = .ref p ∧ xs = [.str z] ∧ ∃ l : List Str, H p = some (.lst (ms l)) ∧ z ∈ l ∧ Q (.int (l.idxOf z : Nat)) H
theorem idx_L : MtR X "list.index" rIdxL := by
  intro pins s σ H x xs v us Q I rx rxs h
  obtain ⟨p, z, rfl, rfl, l, hp, hm, q⟩ := h
  obtain ⟨j, h1, h2, rfl⟩ := first_at hm
  refine mt_index pins s σ H _ _ v us Q I rx rxs ⟨p, ms l, .str z, _, .str z, rfl, rfl, .inl (.inl hp), rfl, flat_ms l, by rw [List.getElem?_map, h1]; rfl, by show (z == z) = true; simp, fun m y hm hy => ?_, q⟩
  rw [List.getElem?_map] at hy
  cases e : l[m]? with
  | none => rw [e] at hy; cases hy
  | some w =>
    rw [e] at hy
    have ey : y = .str w := (Option.some.inj hy).symm
    subst ey
    show (w == z) = false
    have : w ≠ z := fun k => h2 m hm (by rw [e, k])
    simpa using this
end
/-! ### sorted lists of texts, in plain words -/
def sle (a b : Str) : Prop := a.cps.toList ≤ b.cps.toList
theorem sle_trans {a b c : Str} (h1 : sle a b) (h2 : sle b c) : sle a c := List.le_trans h1 h2
theorem sle_anti {a b : Str} (h1 : sle a b) (h2 : sle b a) : a = b := by
  have e := List.le_antisymm h1 h2
  cases a with
  | mk x =>
    cases b with
    | mk y =>
      have e2 : x = y := Array.toList_inj.mp e
      rw [e2]
theorem sle_of {a b : Str} (h : (!ltCps b.cps.toList a.cps.toList) = true) : sle a b := by
  rw [ltCps_eq] at h
  have h2 : ¬ (b.cps.toList < a.cps.toList) := by simpa using h
  exact List.not_lt.mp h2
theorem rising_pw : ∀ {l : List Str} {p : Str}, risingS p l = true → (p :: l).Pairwise sle
  | [], p, _ => by simp
  | x :: l, p, h => by
    obtain ⟨h1, h2⟩ := Bool.and_eq_true_iff.mp h
    have ih := rising_pw h2
    have hpx := sle_of h1
    refine List.Pairwise.cons (fun y hy => ?_) ih
    rcases List.mem_cons.mp hy with rfl | hy
    · exact hpx
    · exact sle_trans hpx ((List.pairwise_cons.mp ih).1 y hy)
theorem sorted_pw {l : List Str} (h : sortedS l = true) : l.Pairwise sle := by
  cases l with
  | nil => exact .nil
  | cons x l => exact rising_pw h
theorem pw_uniq : ∀ {l l' : List Str}, l.Pairwise sle → l'.Pairwise sle → l.Perm l' → l = l'
  | [], l', _, _, h => (List.nil_perm.mp h).symm
  | x :: l, [], _, _, h => absurd h (by simp)
  | x :: l, y :: l', h1, h2, h => by
    have e : x = y := by
      have hx : x ∈ y :: l' := h.mem_iff.mp List.mem_cons_self
      have hy : y ∈ x :: l := h.mem_iff.mpr List.mem_cons_self
      rcases List.mem_cons.mp hx with e | hx
      · exact e
      · rcases List.mem_cons.mp hy with e | hy
        · exact e.symm
        · exact sle_anti ((List.pairwise_cons.mp h1).1 y hy) ((List.pairwise_cons.mp h2).1 x hx)
    subst e
    rw [pw_uniq (List.pairwise_cons.mp h1).2 (List.pairwise_cons.mp h2).2 ((List.perm_cons x).mp h)]
/-- sorted, without doubles, with the same members: the same list -/
theorem sorted_uniq {l l' : List Str} (h1 : sortedS l = true) (h2 : sortedS l' = true) (n1 : l.Nodup) (n2 : l'.Nodup) (hm : ∀ z, z ∈ l ↔ z ∈ l') : l = l' :=
  pw_uniq (sorted_pw h1) (sorted_pw h2) ((List.perm_ext_iff_of_nodup n1 n2).mpr hm)
end Fx
namespace Fx
open PySem PySem.Spec PyProof.Rows L2
section
variable {X : Cx}
/-- t[i], len(t), z in t of a tuple whose object is known -/
def rIxF : R2 := fun x y H Q => ∃ p i, x = .ref p ∧ y = .int i ∧ ∃ xs, FT H p xs ∧ ∃ v, atI xs i = some v ∧ Q v H
theorem ix_F : IxR X rIxF := IxR.imp ix_tup fun x y H Q ⟨p, i, e1, e2, xs, h, v, a, q⟩ => ⟨p, xs, i, v, e1, e2, h.sq, a, q⟩
def rLenF : List V → Hp → VK → Prop := fun xs H Q => ∃ p, xs = [.ref p] ∧ ∃ ys, FT H p ys ∧ Q (.int ys.length) H
theorem len_F : CallR X (.builtin "len") rLenF := CallR.imp call_len_seq fun xs H Q ⟨p, e, ys, h, q⟩ => ⟨p, ys, e, .inr h.sq, q⟩
def rInF (neg : Bool) : R2 := fun x y H Q => ∃ z p, x = .str z ∧ y = .ref p ∧ ∃ l : List Str, FT H p (ms l) ∧ Q (.bl (if neg = true then !decide (z ∈ l) else decide (z ∈ l))) H
theorem in_F : OpR X (compareOp .In) (rInF false) := by
  intro pins s σ H x y v u Q I rx ry h
  obtain ⟨z, p, rfl, rfl, l, hq, q⟩ := h
  refine op_in_seq pins s σ H _ _ v u Q I rx ry ⟨p, ms l, rfl, .inr hq.sq, rfl, flat_ms l, ?_⟩
  rw [in_ms]
  exact q
theorem notIn_F : OpR X (compareOp .NotIn) (rInF true) := by
  intro pins s σ H x y v u Q I rx ry h
  obtain ⟨z, p, rfl, rfl, l, hq, q⟩ := h
  refine op_notIn_seq pins s σ H _ _ v u Q I rx ry ⟨p, ms l, rfl, .inr hq.sq, rfl, flat_ms l, ?_⟩
  rw [in_ms]
  exact q
def rIdxF : V → List V → Hp → VK → Prop := fun x xs H Q => ∃ p z, x = .ref p ∧ xs = [.str z] ∧ ∃ l : List Str, FT H p (ms l) ∧ z ∈ l ∧ Q (.int (l.idxOf z : Nat)) H
theorem idx_F : MtR X "tuple.index" rIdxF := by
  intro pins s σ H x xs v us Q I rx rxs h
  obtain ⟨p, z, rfl, rfl, l, hp, hm, q⟩ := h
  obtain ⟨j, h1, h2, rfl⟩ := first_at hm
  exact mt_tup_index pins s σ H _ _ v us Q I rx rxs ⟨p, l, z, _, rfl, rfl, hp.sq, h1, h2, q⟩
/-- t.m(e, ..) -/
def tBMF (r : V → List V → Hp → VK → Prop) (to : TE) (t : TA) : TE := fun σ H Q => to σ H fun x H1 => ∃ p, x = .ref p ∧ (∃ xs, FT H1 p xs) ∧ t σ H1 fun vs H2 => r x vs H2 Q
variable {o e : Expr} {es : List Expr} {to : TE} {t : TA} {name : Str} {apos cpos : Pos} {id : String} {r : V → List V → Hp → VK → Prop}
theorem pe_bmF (slot : Slot "tuple" name id) (hty : typeOf (.builtin id) = pure (.type "method_descriptor")) (hm : MtR X id r) (ho : PE X o to) (ha : PA X (e :: es) t)
    (hbase : attributeBase o name X.env (eval o X.env) = eval o X.env := by rfl)
    (hfew : ((backTo cpos (starEach (e :: es) X.env)).all (fun x => !x.1) && (backToKw cpos (keywordEach [] X.env)).all (fun x => x.1.isSome)
      && decide ((e :: es).length + ([] : List Keyword).length + (if ([] : List Keyword).isEmpty then 0 else 1) < 30)) = true := by rfl)
    (hline : (apos.endLine == cpos.line) = true := by rfl) (hs : starEach (e :: es) X.env = (false, eval e X.env) :: starEach es X.env := by rfl) (hplain : (backTo cpos (starEach es X.env)).any (·.1) = false := by rfl) :
    PE X (.Call (.Attribute o name apos) (e :: es) [] cpos) (tBMF r to t) := by
  refine ⟨fun pins s σ H Q I h => ?_⟩
  refine wpAny_Call_method_late hbase hfew hline rfl (thn (ho.run pins s σ H _ I h) fun v s1 ⟨x, H1, I1, r1, p, ex, ⟨xs, ob, hp, hd⟩, q1⟩ => ?_)
  subst ex
  obtain rfl : v = Value.ref p := r1
  have hob := (I1.hok p _ hp).1
  obtain ⟨_, its, _, o2, ho2, hc2, _⟩ := (I1.hok p _ hp).2
  have eo : o2 = ob := by
    rw [hob] at ho2
    exact (Option.some.inj ho2).symm
  subst eo
  refine ⟨"tuple", id, PySem.F.plainAttrs_tuple, slot, hty, ⟨o2, hob, hc2⟩, fun a e => ?_, ?_⟩
  · cases e
    exact ⟨o2, hob, hd⟩
  have hA := ha.run cpos pins s1 σ H1 _ I1 q1
  rw [hs] at hA ⊢
  refine Calls.callWith_builtin (by show (false || (backTo cpos (starEach es X.env)).any (·.1)) = false; rw [hplain] <;> rfl) (Calls.evalArgs_plain ?_)
  exact thn hA fun us s2 ⟨vs, H2, I2, r2, q2⟩ => hm pins s2 σ H2 (.ref p) vs (.ref p) us Q I2 rfl r2 q2
/-- t == u -/
def rEqF : R2 := fun x y H Q => ∃ p q, x = .ref p ∧ y = .ref q ∧ ∃ xs ys, FT H p xs ∧ FT H q ys ∧ xs.all isF = true ∧ ys.all isF = true ∧ Q (.bl (decide (xs = ys))) H
theorem eq_FF (hu : X.A.units + 64 < cLine) : OpR X (compareOp .Eq) rEqF := by
  intro pins s σ H x y v u Q I rx ry h
  obtain ⟨p, q, rfl, rfl, xs, ys, hp, hq, fx, fy, k⟩ := h
  refine op_eqD hu pins s σ H _ _ v u Q I rx ry ⟨.tuple (xs.map datV), .tuple (ys.map datV), .tup hp.sq (dpAll_dat fx), .tup hq.sq (dpAll_dat fy), shaped_flatT fx, shaped_flatT fy, ?_⟩
  rw [PyData.eqv, eqvAll_dat fx fy]
  exact k
end
theorem ms_inj {a b : List Str} : ms a = ms b ↔ a = b := by
  constructor
  · intro h
    induction a generalizing b with
    | nil => cases b with
      | nil => rfl
      | cons y b => cases h
    | cons x a ih => cases b with
      | nil => cases h
      | cons y b =>
        simp only [ms, List.map_cons, List.cons.injEq, V.str.injEq] at h
        rw [h.1, ih h.2]
  · intro h
    rw [h]
end Fx
namespace Fx
open PySem PySem.Spec PyProof.Rows L2
/-- e.f with the written part named: inside a comprehension the reading must not lean on its context -/
theorem pe_fldK {X : Cx} {K : PySem.W.Frag} {e : Expr} {f : Str} {ta : TE} {pos : Pos} (hK : X.K = K) (he : PE X e ta) (hb : attributeBase e f X.env (eval e X.env) = eval e X.env) : PE X (.Attribute e f pos) (tFld K ta f) := by
  subst hK
  exact pe_fld he hb
end Fx
/-! Data that repr shows: rows of little data -/
namespace Fx
open PySem PySem.Spec PyProof.Rows L2
/-- little data: depth and shown length -/
structure Sm (d : PyData) (m k : Nat) : Prop where
  sh : d.showable = true
  nd : d.hasDict = false
  dep : d.depth ≤ m
  len : d.shown.length ≤ k
  ok : PyData.strOk d.shown = true
theorem Sm.mono {d : PyData} {m k m' k' : Nat} (h : Sm d m k) (hm : m ≤ m') (hk : k ≤ k') : Sm d m' k' := ⟨h.sh, h.nd, Nat.le_trans h.dep hm, Nat.le_trans h.len hk, h.ok⟩
theorem ok_app {a b : Str} (ha : PyData.strOk a = true) (hb : PyData.strOk b = true) : PyData.strOk (a ++ b) = true := by
  unfold PyData.strOk at *
  show (a.cps ++ b.cps).all _ = true
  rw [Array.all_append, ha, hb]
  rfl
theorem textFrom_ok : ∀ (ts : List Str) (n : Nat) (h : Str), (∀ t ∈ ts, PyData.strOk t = true) → PyData.strOk h = true → PyData.strOk (textFrom n h ts) = true
  | [], _, h, _, hh => hh
  | t :: ts, n, h, ht, hh => by
    have h1 := ht t List.mem_cons_self
    have c : PyData.strOk ", " = true := by decide +kernel
    unfold textFrom
    refine textFrom_ok ts _ _ (fun x hx => ht x (List.mem_cons_of_mem _ hx)) ?_
    first
    | (split
       · exact ok_app (ok_app hh c) h1
       · exact ok_app hh h1)
    | exact ok_app (ok_app hh c) h1
theorem listText_ok {ts : List Str} (ht : ∀ t ∈ ts, PyData.strOk t = true) : PyData.strOk (listText ts) = true := ok_app (textFrom_ok ts 0 "[" ht (by decide +kernel)) (by decide +kernel)
theorem sum_le {ts : List Str} {k : Nat} (h : ∀ t ∈ ts, t.length ≤ k) : (ts.map (·.length)).sum ≤ ts.length * k := by
  induction ts with
  | nil => simp
  | cons t ts ih =>
    rw [List.map_cons, List.sum_cons, List.length_cons, Nat.add_mul]
    have := ih fun x hx => h x (List.mem_cons_of_mem _ hx)
    have := h t List.mem_cons_self
    omega
theorem smAll {ds : List PyData} {m k : Nat} (h : ∀ d ∈ ds, Sm d m k) : PyData.showableAll ds = true ∧ PyData.hasDictAll ds = false ∧ PyData.depthAll ds ≤ m := by
  induction ds with
  | nil => exact ⟨by simp [PyData.showableAll], by simp [PyData.hasDictAll], by simp [PyData.depthAll]⟩
  | cons d ds ih =>
    obtain ⟨h1, h2, h3⟩ := ih fun x hx => h x (List.mem_cons_of_mem _ hx)
    have hd := h d List.mem_cons_self
    refine ⟨by simp only [PyData.showableAll, hd.sh, h1, Bool.and_self], by simp only [PyData.hasDictAll, hd.nd, h2, Bool.or_self], ?_⟩
    simp only [PyData.depthAll]
    exact Nat.max_le.mpr ⟨hd.dep, h3⟩
theorem sm_list {ds : List PyData} {m k : Nat} (h : ∀ d ∈ ds, Sm d m k) : Sm (.list ds) (m + 1) (ds.length * (k + 2) + 3) := by
  obtain ⟨h1, h2, h3⟩ := smAll h
  have hall : ∀ t ∈ PyData.shownAll ds, t.length ≤ k ∧ PyData.strOk t = true := by
    rw [shownAll_eq_map]
    intro t ht
    obtain ⟨d, hd, rfl⟩ := List.mem_map.mp ht
    exact ⟨(h d hd).len, (h d hd).ok⟩
  refine ⟨by simp only [PyData.showable, h1], by simp only [PyData.hasDict, h2], by simp only [PyData.depth]; omega, ?_, ?_⟩
  · simp only [PyData.shown]
    have a := listText_len_le (PyData.shownAll ds)
    have b := sum_le fun t ht => (hall t ht).1
    have c := PyData.shownAll_length ds
    rw [c] at a b
    have e : ds.length * (k + 2) = ds.length * k + ds.length * 2 := Nat.mul_add ..
    omega
  · simp only [PyData.shown]
    exact listText_ok fun t ht => (hall t ht).2
theorem join_ok : ∀ {ts : List Str}, (∀ t ∈ ts, PyData.strOk t = true) → PyData.strOk (Str.join ", " ts) = true
  | [], _ => by decide +kernel
  | [t], h => h t List.mem_cons_self
  | t :: u :: ts, h => ok_app (ok_app (h t List.mem_cons_self) (by decide +kernel)) (join_ok fun x hx => h x (List.mem_cons_of_mem _ hx))
theorem sm_tuple {ds : List PyData} {m k : Nat} (h : ∀ d ∈ ds, Sm d m k) : Sm (.tuple ds) (m + 1) (ds.length * (k + 2) + 3) := by
  obtain ⟨h1, h2, h3⟩ := smAll h
  have hall : ∀ t ∈ PyData.shownAll ds, t.length ≤ k ∧ PyData.strOk t = true := by
    rw [shownAll_eq_map]
    intro t ht
    obtain ⟨d, hd, rfl⟩ := List.mem_map.mp ht
    exact ⟨(h d hd).len, (h d hd).ok⟩
  refine ⟨by simp only [PyData.showable, h1], by simp only [PyData.hasDict, h2], by simp only [PyData.depth]; omega, ?_, ?_⟩
  · simp only [PyData.shown]
    have a := tupleText_len_le (PyData.shownAll ds)
    have b := sum_le fun t ht => (hall t ht).1
    have c := PyData.shownAll_length ds
    rw [c] at a b
    have e : ds.length * (k + 2) = ds.length * k + ds.length * 2 := Nat.mul_add ..
    omega
  · simp only [PyData.shown]
    unfold tupleText
    have j := join_ok fun t ht => (hall t ht).2
    have o : PyData.strOk "(" = true := by decide +kernel
    have c1 : PyData.strOk ",)" = true := by decide +kernel
    have c2 : PyData.strOk ")" = true := by decide +kernel
    split
    · exact ok_app (ok_app o j) c1
    · exact ok_app (ok_app o j) c2
theorem Sm.shw {K : PySem.W.Frag} {H : Hp} {v : V} {d : PyData} {m k : Nat} (h : Sm d m k) (hd : Dp K H v d) (hm : m ≤ 50) (hk : k ≤ 1000000) : Shw K H v d := ⟨hd, h.sh, h.nd, Nat.le_trans h.dep hm, Nat.le_trans h.len (Nat.le_trans hk (by decide)), h.ok⟩
theorem dpAll_app {K : PySem.W.Frag} {H : Hp} : ∀ {xs : List V} {ds : List PyData} {ys : List V} {es : List PyData}, DpAll K H xs ds → DpAll K H ys es → DpAll K H (xs ++ ys) (ds ++ es)
  | _, _, _, _, .nil, h => h
  | _, _, _, _, .cons h r, h2 => .cons h (dpAll_app r h2)
theorem dpAll_ms {K : PySem.W.Frag} {H : Hp} : ∀ l : List Str, DpAll K H (ms l) (l.map .str)
  | [] => .nil
  | z :: l => .cons (.str z) (dpAll_ms l)
theorem dpAll_ints {K : PySem.W.Frag} {H : Hp} : ∀ l : List Int, DpAll K H (l.map V.int) (l.map .int)
  | [] => .nil
  | z :: l => .cons (.int z) (dpAll_ints l)
theorem ofString_ok (s : String) : PyData.strOk (Str.ofString s) = true := by
  unfold PyData.strOk
  rw [PySem.Str.ofString_eq_toList, ← Array.all_toList, List.all_eq_true]
  intro x hx
  have hx2 : x ∈ s.toList.map Char.toNat := by simpa using hx
  obtain ⟨c, _, rfl⟩ := List.mem_map.mp hx2
  have h := c.valid
  unfold UInt32.isValidChar Nat.isValidChar at h
  have e : c.toNat = c.val.toNat := rfl
  rw [e]
  exact decide_eq_true (by omega)
theorem sm_int {i : Int} (h1 : -999999999999 ≤ i) (h2 : i ≤ 999999999999) : Sm (.int i) 0 13 := by
  refine ⟨?_, by simp [PyData.hasDict], by simp [PyData.depth], PyData.shown_int_le2 h1 h2, ?_⟩
  · simp only [PyData.showable]
    exact decide_eq_true (Nat.lt_trans (PySem.Flt.log2_lt_of (k := 64) (by decide) (show i.natAbs < 2 ^ 64 by omega)) (by decide))
  · simp only [PyData.shown]
    exact ofString_ok _
theorem sm_non : Sm .none 0 4 := ⟨by decide, by decide, by decide, by decide, by decide +kernel⟩
theorem sm_bl (b : Bool) : Sm (.bool b) 0 5 := by cases b <;> exact ⟨by decide, by decide, by decide, by decide, by decide +kernel⟩
theorem repr_char : ∀ c < 256, ∀ q ∈ [34, 39], (PySem.Builtin.Str.reprChar q c).all (· < 0x110000) = true := by decide +kernel
theorem sm_str {z : Str} (h : ∀ c ∈ z.cps.toList, c < 256) : Sm (.str z) 0 (10 * z.length + 2) := by
  refine ⟨by simp [PyData.showable], by simp [PyData.hasDict], by simp [PyData.depth], by simp only [PyData.shown]; exact StrLaws.reprText_len z fun c hc => Nat.lt_trans (h c hc) (by decide), ?_⟩
  simp only [PyData.shown]
  have hq : reprQuote z ∈ [34, 39] := by
    unfold reprQuote
    split <;> simp
  have hq2 : decide (reprQuote z < 0x110000) = true := by
    rcases (by simpa using hq : reprQuote z = 34 ∨ reprQuote z = 39) with e | e <;> rw [e] <;> rfl
  have key : ∀ (l : List Nat) (acc : Array Nat), (∀ c ∈ l, c < 256) → acc.all (· < 0x110000) = true → (l.foldl (fun out c => out ++ (PySem.Builtin.Str.reprChar (reprQuote z) c).toArray) acc).all (· < 0x110000) = true := by
    intro l
    induction l with
    | nil => intro acc _ h; exact h
    | cons c l ih =>
      intro acc hl ha
      rw [List.foldl_cons]
      refine ih _ (fun x hx => hl x (List.mem_cons_of_mem _ hx)) ?_
      rw [Array.all_append, ha, ← Array.all_toList]
      exact repr_char c (hl c List.mem_cons_self) _ hq
  unfold PyData.strOk reprText
  show ((z.cps.foldl (fun out c => out ++ (PySem.Builtin.Str.reprChar (reprQuote z) c).toArray) #[reprQuote z]).push (reprQuote z)).all _ = true
  rw [Array.all_push, ← Array.foldl_toList, key z.cps.toList _ h (by simpa using hq2), hq2]
  rfl
end Fx
/-! Sets of texts: {e for x in xs}, sorted of them -/
namespace Fx
open PySem PySem.Spec PyProof.Rows L2
theorem is_self (z : Str) (tk : Tok) : keyIs (.inr z) (.str z tk) = true := by
  show (z == z) = true
  simp
def zOf (e : Int × Value) : Str := match e.2 with
  | .str z _ => z
  | _ => ""
def TxtE (w : World) (e : Int × Value) : Prop := ∃ z tk, e.2 = Value.str z tk ∧ e.1 = keyH w (.inr z)
/-- the set of texts at a; L its members, each once -/
def SetS (w : World) (h : Heap) (a : Addr) (L : List Str) : Prop := ∃ (o : Obj) (es : Array (Int × Value)) (ep : Nat) (t : SetTable), h.get? a = some o ∧ o.ExactSet ∧ o.data = .set es ep t ∧ (∀ e ∈ es.toList, TxtE w e) ∧
  (es.toList.map zOf).Perm L ∧ L.Nodup ∧ es.size < scanBound ∧ t.fits es.size = true ∧ Ris t.place.toList ∧ (w.params.followText "set-order" = true ∨ t.led = true)
section
variable {P : Program} {w : World} {A : Around} {E : Value → Shared → Prop} {s : Shared} {h h' : Heap} {a : Addr} {L : List Str}
theorem SetS.keep (R : SetS w h a L) (k : ∀ o, h.get? a = some o → h'.get? a = some o) : SetS w h' a L := let ⟨o, es, ep, t, ho, r⟩ := R; ⟨o, es, ep, t, k o ho, r⟩
theorem mem_z {l : List (Int × Value)} (g : ∀ e ∈ l, TxtE w e) (z : Str) : z ∈ l.map zOf ↔ ∃ e ∈ l, (mixKind P w).is (.inr z) e.2 = true := by
  constructor
  · intro hz
    obtain ⟨e, he, ez⟩ := List.mem_map.mp hz
    obtain ⟨y, tk, e1, e2⟩ := g e he
    have ey : zOf e = y := by unfold zOf; rw [e1]
    refine ⟨e, he, ?_⟩
    rw [e1, ← ez, ey]
    exact is_self y tk
  · rintro ⟨e, he, hi⟩
    obtain ⟨y, tk, e1, e2⟩ := g e he
    refine List.mem_map.mpr ⟨e, he, ?_⟩
    rcases keyIs_shape (k := .inr z) (v := e.2) hi with ⟨i, t, k1, k2⟩ | ⟨x, t, k1, k2⟩
    · cases k1
    · cases k1
      unfold zOf
      rw [k2]
theorem elems_z {l : List (Int × Value)} (g : ∀ e ∈ l, TxtE w e) : ElemsOf (mixKind P w) l := fun e he => by
  obtain ⟨z, tk, h1, h2⟩ := g e he
  exact ⟨⟨.inr z, by rw [h1]; exact is_self z tk, h2⟩, by rw [h1] <;> rfl⟩
theorem putS_at {o : Obj} {es es' : Array (Int × Value)} {ep : Nat} {t t' : SetTable} (ho : h.get? a = some o) (hd : o.data = .set es ep t) : (h.update a (Obj.putSet es' t')).get? a = some { o with data := .set es' (ep + 1) t' } := by
  have q := Heap.get?_update_self (Obj.putSet es' t') ho (by rw [putSet_of es' t' hd] <;> rfl)
  rwa [putSet_of es' t' hd] at q
theorem addS_tail {g : Bool → Sem Unit} {o : Obj} {es es1 : Array (Int × Value)} {ep : Nat} {t t2 : SetTable} {L1 : List Str} {wasDummy : Bool} {R : Option Bool → Shared → Prop}
    (hg : ∀ (b : Bool) (s₁ : Shared) (Q' : Unit → Shared → Prop), Q' () s₁ → wpAny (model P w) A (g b) Q' E s₁) (ho : s.heap.get? a = some o) (hex : o.ExactSet) (hd : o.data = .set es ep t) (g1 : ∀ e ∈ es1.toList, TxtE w e)
    (p1 : (es1.toList.map zOf).Perm L1) (nd1 : L1.Nodup) (hb1 : es1.size < scanBound) (hf2 : t2.fits es1.size = true) (hr : Ris t2.place.toList) (hl : w.params.followText "set-order" = true ∨ t2.led = true)
    (hR : ∀ h', Heap.SameBut a s.heap h' → SetS w h' a L1 → R (some true) { s with heap := h' }) :
    wpAny (model P w) A (do
      storeSet a es1 t2
      if (!wasDummy && t2.tooFull) = true then do g (relayAll t2 es1 (SetTable.grown es1.size)).2.2; storeSet a (relayAll t2 es1 (SetTable.grown es1.size)).1 (relayAll t2 es1 (SetTable.grown es1.size)).2.1; pure (some true)
      else pure (some true)) R E s := by
  have ho1 := putS_at (es' := es1) (t' := t2) ho hd
  have b1 := Heap.SameBut.update s.heap a (Obj.putSet es1 t2)
  refine wpAny_bind (wpAny_storeSet_of ho hd ?_ (fits_of_scanBound hb1))
  split
  · have pm := relayAll_perm t2 es1 (SetTable.grown es1.size)
    have hf3 := relayAll_fits t2 es1 (SetTable.grown es1.size)
    have hr3 := relayAll_ris t2 es1 (SetTable.grown es1.size)
    have hl3 := relayAll_led t2 es1 (SetTable.grown es1.size)
    rcases hZ : relayAll t2 es1 (SetTable.grown es1.size) with ⟨es2, t3, gave⟩
    rw [hZ] at pm hf3 hr3 hl3
    dsimp only at pm hf3 hr3 hl3 ⊢
    have hsz : es2.size = es1.size := by rw [← Array.length_toList, pm.length_eq, Array.length_toList]
    have hb2 : es2.size < scanBound := hsz ▸ hb1
    refine wpAny_bind (hg _ _ _ (wpAny_bind (wpAny_storeSet_of ho1 rfl ?_ (fits_of_scanBound hb2))))
    refine wpAny_pure (hR _ (b1.trans (Heap.SameBut.update _ a _)) ⟨_, es2, _, t3, putS_at (es' := es2) (t' := t3) ho1 rfl, hex, rfl, fun e he => g1 e (pm.mem_iff.mp he), (pm.map zOf).trans p1, nd1, hb2, hf3, hr3, hl.imp id fun z => ?_⟩)
    rw [hl3]
    exact z
  · exact wpAny_pure (hR _ b1 ⟨_, es1, _, t2, ho1, hex, rfl, g1, p1, nd1, hb1, hf2, hr, hl⟩)
/-- with one more -/
def plus (L : List Str) (z : Str) : List Str := if z ∈ L then L else z :: L
theorem addS_hashed {z : Str} {tk : Tok} {Q : Bool → Shared → Prop} (R : SetS w s.heap a L) (room : L.length + 1 < scanBound)
    (hQ : ∀ h' b, Heap.SameBut a s.heap h' → SetS w h' a (plus L z) → Q b { s with heap := h' }) : wpAny (model P w) A (setAddHashed a (.str z tk) ((mixKind P w).hash (.inr z))) Q E s := by
  obtain ⟨o, es, ep, t, ho, hex, hd, g, pL, nd, hb, hf, hr, hl⟩ := R
  have hkey : (mixKind P w).is (.inr z) (.str z tk) = true := is_self z tk
  have hsc : (Value.str z tk).scannable = true := rfl
  have hel : ElemsOf (mixKind P w) es.toList := elems_z g
  have hn : es.size = L.length := by rw [← Array.length_toList, ← List.length_map (f := zOf), pL.length_eq]
  unfold setAddHashed setAddHashedIn
  refine wpAny_holding (wpAny_bind (wpAny_setState_of ho hd hf ?_))
  dsimp only
  rw [byScan_of hsc hb hel, if_pos rfl]
  unfold setAddByScan
  refine wpAny_bind (wpAny_bind (wpAny_rule (wpAny_bind (wpAny_setScan_of hkey ho hd hf hel ?_))))
  cases hfi : List.findIdx? (fun e => (mixKind P w).is (.inr z) e.2) es.toList with
  | some j =>
    dsimp only
    obtain ⟨hj, pj, _⟩ := List.findIdx?_eq_some_iff_getElem.mp hfi
    have hz : z ∈ L := pL.mem_iff.mp ((mem_z (P := P) g z).mpr ⟨es.toList[j], List.getElem_mem hj, pj⟩)
    refine wpAny_pure (wpAny_pure (hQ s.heap _ (Heap.SameBut.refl a s.heap) ?_))
    unfold plus
    rw [if_pos hz]
    exact ⟨o, es, ep, t, ho, hex, hd, g, pL, nd, hb, hf, hr, hl⟩
  | none =>
    dsimp only
    have hz : z ∉ L := fun k => by
      obtain ⟨e, he, q⟩ := (mem_z (P := P) g z).mp (pL.mem_iff.mpr k)
      exact Bool.noConfusion ((List.findIdx?_eq_none_iff.mp hfi e he).symm.trans q)
    have hgw : ∀ (b : Bool) {s₁ : Shared} {Q' : Unit → Shared → Prop}, Q' () s₁ → wpAny (model P w) A (match b with | true => rule "set.scan.the-table-gave-way" | false => pure ()) Q' E s₁ := by
      intro b s₁ Q' q
      cases b
      · exact wpAny_pure q
      · exact wpAny_rule q
    have pm := layNew_perm t es ((mixKind P w).hash (.inr z)) (.str z tk)
    have hf1 := layNew_fits t es ((mixKind P w).hash (.inr z)) (.str z tk)
    have hr1 := layNew_ris t es ((mixKind P w).hash (.inr z)) (.str z tk) hr
    have hl1 := layNew_led t es ((mixKind P w).hash (.inr z)) (.str z tk)
    rcases hZ : layNew t es ((mixKind P w).hash (.inr z)) (.str z tk) with ⟨es1, t1, wasDummy, gave⟩
    rw [hZ] at pm hf1 hr1 hl1
    dsimp only at pm hf1 hr1 hl1 ⊢
    rw [Array.toList_push] at pm
    have pc : es1.toList.Perm (((mixKind P w).hash (.inr z), Value.str z tk) :: es.toList) := pm.trans (List.perm_append_singleton _ _)
    have pk : (es1.toList.map zOf).Perm (z :: L) := (pc.map zOf).trans (pL.cons z)
    have g1 : ∀ e ∈ es1.toList, TxtE w e := by
      intro e he
      rcases List.mem_cons.mp (pc.mem_iff.mp he) with q | q
      · exact q ▸ ⟨z, tk, rfl, rfl⟩
      · exact g e q
    have nd1 : (z :: L).Nodup := List.nodup_cons.mpr ⟨hz, nd⟩
    have hb1 : es1.size < scanBound := by rw [← Array.length_toList, pc.length_eq, List.length_cons, Array.length_toList, hn]; exact room
    have hled : w.params.followText "set-order" = true ∨ t1.led = true := hl.imp id fun q => by rw [hl1]; exact q
    have fin : ∀ h' b, Heap.SameBut a s.heap h' → SetS w h' a (z :: L) → Q b { s with heap := h' } := fun h' b sb r => hQ h' b sb (by unfold plus; rw [if_neg hz]; exact r)
    refine wpAny_bind (hgw _ ?_)
    split
    · refine wpAny_bind ?_
      rw [hashByValue_scannable 8 hsc]
      refine wpAny_pure ?_
      refine addS_tail (fun b s₁ Q' q => hgw b q) ho hex hd g1 pk nd1 hb1 ?_ ?_ ?_ fun h' sb r => ?_
      · first
        | exact hf1
        | (split
           · first | exact hf1 | exact SetTable.fits_plain_off hf1
           · first | exact hf1 | exact SetTable.fits_plain_off hf1)
      · first | exact hr1 | (split <;> exact hr1)
      · first | exact hled | (split <;> exact hled)
      · dsimp only
        exact wpAny_pure (fin h' _ sb r)
    · refine wpAny_bind (wpAny_pure ?_)
      simp only [↓reduceIte]
      exact addS_tail (fun b s₁ Q' q => hgw b q) ho hex hd g1 pk nd1 hb1 hf1 hr1 hled fun h' sb r => by dsimp only; exact wpAny_pure (fin h' _ sb r)
end
/-- found.add(z) -/
theorem addS {P : Program} {w : World} {A : Around} {E : Value → Shared → Prop} {s : Shared} {a : Addr} {L : List Str} {z : Str} {tk : Tok} {Q : Value → Shared → Prop} (R : SetS w s.heap a L) (room : L.length + 1 < scanBound)
    (hQ : ∀ h', Heap.SameBut a s.heap h' → SetS w h' a (plus L z) → Q .none { s with heap := h', toks := s.toks + 1 }) : wpAny (model P w) A (call (.builtin "set.add") [.ref a, .str z tk]) Q E s := by
  have ty : s.TypeIs (.ref a) "set" := let ⟨o, _, _, _, ho, hex, _⟩ := R; ⟨o, ho, hex.1⟩
  refine wpAny_call_entry PySem.F.slot_set_add ty PySem.F.entry_set_add ?_ (PySem.F.args_set_add_2 _ _)
  unfold Builtin.«set.add» Builtin.Frozenset.oneOther
  simp only [List.isEmpty_nil, bind_assoc]
  unfold Builtin.Frozenset.addrOf setAdd
  refine wpAny_bind (wpAny_pure ?_)
  try dsimp only
  refine wpAny_bind (wpAny_pure ?_)
  try dsimp only
  refine wpAny_bind (wpAny_holding (wpAny_bind ((mixKind P w).pyHash (k := .inr z) (is_self z tk) ?_)))
  exact addS_hashed (s := { s with toks := s.toks + 1 }) R room fun h' b sb r => wpAny_pure ⟨_, rfl, hQ h' sb r⟩
theorem freshS {h : Heap} (w : World) : SetS w (h.push { cls := .type "set", dict := none, data := .set #[] 0 (.fresh 0 0 (!w.params.followText "set-order")) }) h.objs.size [] := by
  refine ⟨_, #[], 0, _, Heap.get?_push_size _ rfl, ⟨rfl, rfl, rfl⟩, rfl, fun e he => by simp at he, .refl _, .nil, by decide, by rfl, List.Pairwise.nil, ?_⟩
  show w.params.followText "set-order" = true ∨ (!w.params.followText "set-order") = true
  cases w.params.followText "set-order" <;> simp
/-- the set of texts at a, as a tracked thing -/
def SetSO (w : World) (a : Addr) (L : List Str) : HO := .ext fun h => SetS w h a L
theorem setSO_ok {w : World} {P : Program} {H : Hp} {h : Heap} {a : Addr} {L : List Str} (R : SetS w h a L) : ObjOk P w H h a (SetSO w a L) := ⟨R, let ⟨o, _, _, _, ho, _⟩ := R; ⟨o, ho⟩, fun _ _ p k => SetS.keep p k⟩
theorem setSO_at {X : Cx} {pins : List (Addr × Obj)} {σ : L2.St} {H : Hp} {s : Shared} {a : Addr} {L : List Str} (I : Inv X pins σ H s) (ha : H a = some (SetSO X.w a L)) : SetS X.w s.heap a L := (I.hok a _ ha).1
theorem addSO {X : Cx} {pins : List (Addr × Obj)} {σ : L2.St} {H : Hp} {s : Shared} {E : Value → Shared → Prop} {D : Addr} {L : List Str} {z : Str} {tk : Tok} {Q : Value → Shared → Prop} (I : Inv X pins σ H s) (hD : H D = some (SetSO X.w D L)) (room : L.length + 1 < scanBound)
    (h : ∀ s', Inv X pins σ (upd H D (SetSO X.w D (plus L z))) s' → Q .none s') : wpAny (model X.prog X.w) X.A (call (.builtin "set.add") [.ref D, .str z tk]) Q E s := by
  refine addS (setSO_at I hD) room fun h' sb new => h _ (I.write (e := D) (t' := s.toks + 1) (by rw [hD]; trivial) (.inl rfl) (fun b u hb hu => (sb.2 b hb).trans hu) ?_ (setSO_ok new))
  obtain ⟨o, _, _, _, ho, _⟩ := new
  exact ⟨o, ho⟩
/-- {elt for target in iter if ..}, texts: D the new set -/
def tScS (w : World) (wi : TI) (g : TG) (tt : TT) (te : TE) (vs : List Nat) : TE := fun σ H Q => wi σ H fun J H1 => ∀ D, H1 D = none → ∃ W : Nat → Nat → Hp → Prop, (∃ m, W 0 m (upd H1 D (SetSO w D []))) ∧ ∀ i m H, W i m H →
  (J.stop i H ∧ Q (.ref D) H) ∨ (J.go i H ∧ ∃ Nx : Hp → Prop, (∀ H', Nx H' → ∃ m', m' < m ∧ W (i + 1) m' H') ∧ ∀ x H', J.yld i H x H' → g x (wipe σ vs) H' fun σ2 H2 => wipe σ2 vs = wipe σ vs ∧ tt σ2 H2 fun b H3 =>
    if b = true then te σ2 H3 fun y H4 => ∃ (z : Str) (L : List Str), y = .str z ∧ H4 D = some (SetSO w D L) ∧ L.length + 1 < scanBound ∧ Nx (upd H4 D (SetSO w D (plus L z))) else Nx H3)
section
variable {X : Cx} {elt tg iter : Expr} {ifs : List Expr} {scope : Scope} {own : List (PySem.Str × Nat)} {pos : Pos} {wi : TI} {g : TG} {tt : TT} {te : TE}
theorem coreS {pins : List (Addr × Obj)} {s : Shared} {σ : L2.St} {H : Hp} {Q : VK} {pos' : Pos} {use : Option (Value → Sem Unit)} {Qf : Value → Shared → Prop} (hc : X.calm = true) (hN : X.N.Nodup) (I : Inv X pins σ H s) (hi : PI X tg iter wi) (ok : BlkOk X.N X.env.scope scope own)
    (hg : ∀ (s : Shared) (H : Hp) (C : Addr) (cl : List (PySem.Str × Addr)) (fp : List Addr), PG (X.blk s H scope (compEnvC scope cl C X.env) fp) tg g)
    (ht : ∀ (s : Shared) (H : Hp) (C : Addr) (cl : List (PySem.Str × Addr)) (fp : List Addr), PTs (X.blk s H scope (compEnvC scope cl C X.env) fp) ifs tt)
    (he : ∀ (s : Shared) (H : Hp) (C : Addr) (cl : List (PySem.Str × Addr)) (fp : List Addr), PE (X.blk s H scope (compEnvC scope cl C X.env) fp) elt te) (hs : ∀ x, foldedSetIterable iter X.env x = pure x) (h : tScS X.w wi g tt te (own.map (·.2)) σ H Q)
    (hRR : ∀ D C s' m H', Inv X pins σ H' s' → Q (.ref D) H' → s'.heap.Ns C m → FpOk X pins H' C → compPost (model X.prog X.w) X.A X.xe use Qf (.ref D) C (.ok .next) s') :
    wpAny (model X.prog X.w) X.A (comprehension (.SetComp elt [⟨tg, iter, ifs, 0⟩] scope pos) scope X.env pos' (newSet (.type "set")) false (eval iter X.env) use) Qf X.xe s := by
  have fr : ∀ y ∈ scope.names, y.2 = .free → ∃ c, X.env.cells.lookup y.1 = some c := fun y hy e => by
    rcases ok.free y hy e with k | k <;> exact I.ok.has _ (by first | exact .inl k | exact .inr k)
  refine wpAny_comprehension_free (use := use) rfl hs (closure_ok fr) ok.kind (fun y hy e => by rw [ok.uniq y hy, e]) (thn (hi.run pins s σ H _ I h) fun xv s1 hx => thn hx fun itv s2 h2 => ?_)
  obtain ⟨it, fp, tn, J, H2, rfl, I2, T, st2, f2, q⟩ := h2
  refine PpSet.newSet_ok (newEnv_comp ?_)
  generalize hD : s2.heap.objs.size = D
  have hDn : H2 D = none := I2.hok.fresh (Nat.le_of_eq hD)
  obtain ⟨W, ⟨m0, w0⟩, turn⟩ := q D hDn
  generalize hs3 : ({ s2 with heap := s2.heap.push { cls := .type "set", dict := none, data := .set #[] 0 (.fresh 0 0 (!X.w.params.followText "set-order")) } } : Shared) = s3
  have h3 : s3.heap = s2.heap.push { cls := .type "set", dict := none, data := .set #[] 0 (.fresh 0 0 (!X.w.params.followText "set-order")) } := hs3 ▸ rfl
  have I3 : Inv X pins σ (upd H2 D (SetSO X.w D [])) s3 := by
    subst hs3
    refine I2.laid (t' := s2.toks) (fun b o e => Heap.get?_push_of_some _ e) (Nat.le_of_eq hD) ?_
    subst hD
    exact setSO_ok (freshS X.w)
  have sz : ∀ b ∈ fp, b < s2.heap.objs.size := fun b hb => let ⟨o, e, _⟩ := T.obj _ _ st2 b hb; Heap.lt_size e
  have f3 : ∀ b ∈ fp, FpOk X pins (upd H2 D (SetSO X.w D [])) b ∧ b < s3.heap.objs.size := fun b hb => by
    have lt := sz b hb
    refine ⟨⟨?_, (f2 b hb).2⟩, by rw [h3, Heap.size_push]; exact Nat.lt_succ_of_lt lt⟩
    rw [upd_ne (by rw [← hD]; exact Nat.ne_of_lt lt)]
    exact (f2 b hb).1
  have st3 : tn 0 s3.heap := T.keep _ _ _ st2 fun b _ o e => by rw [h3]; exact Heap.get?_push_of_some _ e
  have I4 := block_start I3 ok hN f3
  let cl := cellsFrom (s3.heap.objs.size + 1) scope.names (cloFrom X.env.cells scope.names [])
  have pg := hg s3 (upd H2 D (SetSO X.w D [])) s3.heap.objs.size cl fp
  have pt := ht s3 (upd H2 D (SetSO X.w D [])) s3.heap.objs.size cl fp
  have pe := he s3 (upd H2 D (SetSO X.w D [])) s3.heap.objs.size cl fp
  show codeAny _ _ (.compStart (.SetComp elt [⟨tg, iter, ifs, 0⟩] scope pos) 0 (.ref it) (.ref D) (compEnvC scope cl s3.heap.objs.size X.env)) (compPost (model X.prog X.w) X.A X.xe use Qf (.ref D) s3.heap.objs.size) { s3 with heap := pushCells (s3.heap.push { cls := .type "dict", data := .dict #[] }) scope.names }
  have nfp : ∀ b ∈ fp, (upd H2 D (SetSO X.w D [])) b = none := fun b hb => (f3 b hb).1.1
  generalize hce : compEnvC scope cl s3.heap.objs.size X.env = ce at pg pt pe ⊢
  have I4 : Inv (X.blk s3 (upd H2 D (SetSO X.w D [])) scope ce fp) [] (wipe σ (own.map (·.2))) (upd H2 D (SetSO X.w D [])) _ := hce ▸ I4
  have cL : ce.locals = s3.heap.objs.size := by subst hce; rfl
  generalize hH3 : upd H2 D (SetSO X.w D []) = H3 at I3 I4 pg pt pe w0 nfp f3
  generalize hs4 : ({ s3 with heap := pushCells (s3.heap.push { cls := .type "dict", data := .dict #[] }) scope.names } : Shared) = s4 at I4 ⊢
  have st4 : tn 0 s4.heap := T.keep _ _ _ st3 fun b _ o e => by rw [← hs4]; exact pushCells_keeps _ _ _ _ (Heap.get?_push_of_some _ e)
  have stat : ∀ {σ' : L2.St} {H' : Hp} {s' : Shared}, Inv (X.blk s3 H3 scope ce fp) [] σ' H' s' → (∀ b ∈ fp, H' b = none) → ∀ b ∈ fp, FpOk (X.blk s3 H3 scope ce fp) [] H' b := by
    intro σ' H' s' I' hn b hb
    exact ⟨hn b hb, (I'.ok.exf b hb).1, I'.ok.exfs b hb, .inl hb, fun x c e => (I'.ok.exf b hb).2 x c e, fun p hp => absurd (show p ∈ ([] : List (Addr × Obj)) ++ [] from hp) (by simp)⟩
  have loop : codeAny (model X.prog X.w) X.A (.compLoop (.SetComp elt [⟨tg, iter, ifs, 0⟩] scope pos) 0 (.ref it) (.ref D) ce) (compPost (model X.prog X.w) X.A X.xe use Qf (.ref D) s3.heap.objs.size) s4 := by
    refine PpSet.compLoopS_any (fun n s' => ∃ i H', Inv (X.blk s3 H3 scope ce fp) [] (wipe σ (own.map (·.2))) H' s' ∧ tn i s'.heap ∧ (∀ b ∈ fp, H' b = none) ∧ W i n H') (fun n s5 hI => ?_) m0 ⟨0, H3, I4, st4, nfp, w0⟩
    obtain ⟨i, H5, I5, st5, n5, w5⟩ := hI
    rcases turn i n H5 w5 with ⟨stop, qq⟩ | ⟨go, Nx, hNx, step⟩
    · refine thnF (T.done (X.blk s3 H3 scope ce fp) rfl rfl rfl hc i [] s5 _ H5 (fun _ _ => False) I5 (stat I5 n5) st5 stop) fun r s6 ⟨hr, I6⟩ => ?_
      subst hr
      have I7 : Inv X pins σ H5 s6 := I3.call' (ch := fp) I6.os I6.base I6.hok I6.bare fun b hb => ⟨(f3 b hb).1.2.2.2.1, (f3 b hb).1.2.1, (f3 b hb).1.2.2.2.2.1, (f3 b hb).1.2.2.2.2.2⟩
      have nC : H5 s3.heap.objs.size = none := cL ▸ (show H5 ce.locals = none from I6.free)
      obtain ⟨m, hn, _⟩ := I6.loc
      have hn : s6.heap.Ns ce.locals m := hn
      exact hRR D s3.heap.objs.size s6 m H5 I7 qq (cL ▸ hn) (I3.fpOk (Nat.le_refl _) nC)
    · refine thnF (T.item (X.blk s3 H3 scope ce fp) rfl rfl rfl hc i [] s5 _ H5 (fun _ _ => False) I5 (stat I5 n5) st5 go) fun r s6 ⟨u, hr, h6⟩ => ?_
      subst hr
      refine thnF h6 fun _ s7 ⟨x, H7, I7, r7, y7, st7, n7⟩ => ?_
      refine thnF (pg.run _ s7 _ H7 x u _ (I7.pinned (stat I7 n7) (T.obj _ _ st7)) r7 (step x H7 y7)) fun _ s8 ⟨σ8, H8, I8, hw8, q8⟩ => thnF (pt.run _ s8 σ8 H8 _ I8 q8) fun b s9 ⟨H9, I9, q9⟩ => ?_
      have fin : ∀ {s' : Shared} {H' : Hp}, Inv (X.blk s3 H3 scope ce fp) ([] ++ pinsAt fp s7.heap) σ8 H' s' → Nx H' → ∃ m, m < n ∧ ∃ i H', Inv (X.blk s3 H3 scope ce fp) [] (wipe σ (own.map (·.2))) H' s' ∧ tn i s'.heap ∧ (∀ b ∈ fp, H' b = none) ∧ W i m H' := by
        intro s' H' I' nx
        obtain ⟨m', hm, w'⟩ := hNx H' nx
        have pin' : ∀ b ∈ fp, ∀ o, s7.heap.get? b = some o → s'.heap.get? b = some o ∧ H' b = none := fun b hb o e => let k := I'.pin (b, o) (List.mem_append_right _ (List.mem_append_right _ (mem_pinsAt hb e))); ⟨k.1, k.2.1⟩
        refine ⟨m', hm, i + 1, H', (I'.unpinned (pins := [])).weak (by rw [← hw8, wipe_length]) (fun j v e => ?_), T.keep _ _ _ st7 fun b hb o e => (pin' b hb o e).1, fun b hb => ?_, w'⟩
        · exact (wipe_some (hw8 ▸ e)).1
        · obtain ⟨o, e, _⟩ := T.obj _ _ st7 b hb
          exact (pin' b hb o e).2
      cases b
      · simp only [Bool.false_eq_true, if_false] at q9 ⊢
        exact fin I9 q9
      · simp only [if_true] at q9 ⊢
        refine thnF (pe.run _ s9 σ8 H9 _ I9 q9) fun v s10 ⟨yv, H10, I10, r10, z, L0, ey, hD10, hz10, nx⟩ => ?_
        subst ey
        obtain ⟨tk, rfl⟩ := r10
        exact addSO (X := X.blk s3 H3 scope ce fp) I10 hD10 hz10 fun s11 I11 => fin I11 nx
  exact PpSet.codeAny_compStart_set loop (T.self X.A 0 _ _ _ st4 loop)
theorem pe_scS (hc : X.calm = true) (hN : X.N.Nodup) (hi : PI X tg iter wi) (ok : BlkOk X.N X.env.scope scope own) (hg : ∀ (s : Shared) (H : Hp) (C : Addr) (cl : List (PySem.Str × Addr)) (fp : List Addr), PG (X.blk s H scope (compEnvC scope cl C X.env) fp) tg g)
    (ht : ∀ (s : Shared) (H : Hp) (C : Addr) (cl : List (PySem.Str × Addr)) (fp : List Addr), PTs (X.blk s H scope (compEnvC scope cl C X.env) fp) ifs tt) (he : ∀ (s : Shared) (H : Hp) (C : Addr) (cl : List (PySem.Str × Addr)) (fp : List Addr), PE (X.blk s H scope (compEnvC scope cl C X.env) fp) elt te)
    (hs : ∀ x, foldedSetIterable iter X.env x = pure x := by intro _; rfl) : PE X (.SetComp elt [⟨tg, iter, ifs, 0⟩] scope pos) (tScS X.w wi g tt te (own.map (·.2))) := by
  refine ⟨fun pins s σ H Q I h => ?_⟩
  rw [PpSet.eval_SetComp]
  refine coreS hc hN I hi ok hg ht he hs h fun D C s' m H' I' q hn ⟨f0, f1, f2, f3, f4, f5⟩ => ⟨m, hn, fun h'' sb => ⟨.ref D, H', I'.turned (t' := s'.toks) (fun b o hb e => (sb.2 b hb).trans e) f0 f1 f3 f4 f5, rfl, q⟩⟩
end
/-- over a list or a tuple that the block leaves as it is -/
theorem sc_Q {w : World} {K : PySem.W.Frag} {a : Addr} {j : Nat} {xs : List V} {g : TG} {tt : TT} {te : TE} {vs : List Nat} {σ : L2.St} {H : Hp} {Q : VK} (hv : σ[j]? = some (some (.ref a))) (hq : SqL K H a xs ∨ SqT K H a xs) (Pv : Nat → Addr → Hp → Prop)
    (hS : ∀ i D H', Pv i D H' → (SqL K H a xs → SqL K H' a xs) ∧ (SqT K H a xs → SqT K H' a xs)) (h0 : ∀ D, H D = none → Pv 0 D (upd H D (SetSO w D [])))
    (hs : ∀ i D x H', xs[i]? = some x → Pv i D H' → g x (wipe σ vs) H' fun σ2 H2 => wipe σ2 vs = wipe σ vs ∧ tt σ2 H2 fun b H3 =>
      if b = true then te σ2 H3 fun y H4 => ∃ (z : Str) (L : List Str), y = .str z ∧ H4 D = some (SetSO w D L) ∧ L.length + 1 < scanBound ∧ Pv (i + 1) D (upd H4 D (SetSO w D (plus L z))) else Pv (i + 1) D H3)
    (hd : ∀ D H', Pv xs.length D H' → Q (.ref D) H') : tScS w (iQ K (tVar j)) g tt te vs σ H Q := by
  have run : ∀ (J : It) (D : Addr), H D = none → (∀ i H', Pv i D H' → i ≤ xs.length → (i < xs.length → J.go i H' ∧ ∀ x H'', J.yld i H' x H'' → H'' = H' ∧ xs[i]? = some x) ∧ (i = xs.length → J.stop i H')) → ∃ W : Nat → Nat → Hp → Prop, (∃ m, W 0 m (upd H D (SetSO w D []))) ∧ ∀ i m H, W i m H →
      (J.stop i H ∧ Q (.ref D) H) ∨ (J.go i H ∧ ∃ Nx : Hp → Prop, (∀ H', Nx H' → ∃ m', m' < m ∧ W (i + 1) m' H') ∧ ∀ x H', J.yld i H x H' → g x (wipe σ vs) H' fun σ2 H2 => wipe σ2 vs = wipe σ vs ∧ tt σ2 H2 fun b H3 =>
        if b = true then te σ2 H3 fun y H4 => ∃ (z : Str) (L : List Str), y = .str z ∧ H4 D = some (SetSO w D L) ∧ L.length + 1 < scanBound ∧ Nx (upd H4 D (SetSO w D (plus L z))) else Nx H3) := by
    intro J D nD hJ
    refine ⟨fun i m H' => m = xs.length - i ∧ i ≤ xs.length ∧ Pv i D H', ⟨_, rfl, Nat.zero_le _, h0 D nD⟩, ?_⟩
    rintro i m H' ⟨rfl, hi, p⟩
    obtain ⟨j1, j2⟩ := hJ i H' p hi
    by_cases hlt : i < xs.length
    · obtain ⟨go, y⟩ := j1 hlt
      refine .inr ⟨go, Pv (i + 1) D, fun H' p' => ⟨xs.length - (i + 1), by omega, rfl, hlt, p'⟩, fun x H'' hy => ?_⟩
      obtain ⟨rfl, hx⟩ := y x H'' hy
      exact hs i D x _ hx p
    · obtain rfl : i = xs.length := by omega
      exact .inl ⟨j2 rfl, hd D H' p⟩
  rcases hq with hq | hq
  · refine .inl ⟨_, hv, a, rfl, ⟨_, hq⟩, fun D nD => run _ D nD fun i H' p hi => ?_⟩
    have q := (hS i D H' p).1 hq
    exact ⟨fun lt => ⟨⟨xs, xs[i], q, by simp [lt]⟩, fun x H'' y => ⟨y.1, y.2 xs q⟩⟩, fun e => ⟨xs, q, Nat.le_of_eq e.symm⟩⟩
  · refine .inr ⟨_, hv, a, rfl, ⟨_, hq⟩, fun D nD => run _ D nD fun i H' p hi => ?_⟩
    have q := (hS i D H' p).2 hq
    exact ⟨fun lt => ⟨⟨xs, xs[i], q, by simp [lt]⟩, fun x H'' y => ⟨y.1, y.2 xs q⟩⟩, fun e => ⟨xs, q, Nat.le_of_eq e.symm⟩⟩
/-- sorted(found) -/
def rSortZ (w : World) : List V → Hp → VK → Prop := fun vs H Q => ∃ a, vs = [V.ref a] ∧ ∃ L, H a = some (SetSO w a L) ∧ ∀ (ys : List Str) (p : Addr), ys.Perm L → L.Nodup → sortedS ys = true → H p = none → Q (.ref p) (upd H p (.lst (ms ys)))
theorem strs_of : ∀ (l : List Value), (∀ v ∈ l, ∃ z tk, v = Value.str z tk) → StrsAre l (l.map fun v => zOf (0, v))
  | [], _ => .nil
  | v :: l, h => by
    obtain ⟨z, tk, rfl⟩ := h v List.mem_cons_self
    exact .cons z tk (strs_of l fun u hu => h u (List.mem_cons_of_mem _ hu))
theorem sort_Z {X : Cx} (hc : X.calm = true) : CallR X (.builtin "sorted") (rSortZ X.w) := by
  intro pins s σ H vs us Q I r h
  obtain ⟨a, rfl, L, ha, q⟩ := h
  obtain ⟨o, es, ep, t, ho, hex, hd, g, pL, nd, hb, hf, hr, hl⟩ := setSO_at I ha
  rw [Vals.ref1 r]
  have hn : es.size = L.length := by rw [← Array.length_toList, ← List.length_map (f := zOf), pL.length_eq]
  have hL : L.length ≤ sizeLine := by rw [← hn]; exact fits_of_scanBound hb
  refine Calls.call_function_entry kind_sorted plain_sorted entry_sorted (args_sorted1 _) ?_
  unfold Builtin.«sorted»
  refine wpAny_bind (m := checkCount "sorted" 1 1 _) (wpAny_pure (wpAny_bind (collect_set (A := X.A.in1) (I.ok.hd hc) ⟨o, ho, hex.1, hd⟩ hf hb hr hl fun s1 vs k1 hz g1 o1 pm => ?_)))
  have hvl : vs.length = L.length := by rw [pm.length_eq, List.length_map, Array.length_toList, hn]
  have hI : StrsAre vs (vs.map fun v => zOf (0, v)) := strs_of vs fun v hv => by
    obtain ⟨e, he, rfl⟩ := List.mem_map.mp (pm.mem_iff.mp hv)
    obtain ⟨z, tk, h1, _⟩ := g e he
    exact ⟨z, tk, h1⟩
  have pk : (vs.map fun v => zOf (0, v)).Perm L := by
    refine List.Perm.trans (l₂ := es.toList.map zOf) ?_ pL
    have k := pm.map fun v => zOf (0, v)
    rw [List.map_map] at k
    exact k
  refine wpAny_bind (wpAny_newList ?_ (by rw [hvl]; exact hL))
  have hoL : (s1.heap.push (seqObj "list" vs.toArray 0)).get? s1.heap.objs.size = some (seqObj "list" vs.toArray 0) := Heap.get?_push_size _ rfl
  refine wpAny_bind (wpAny_holding (wpAny_call_entry slot_list_sort ⟨_, hoL, rfl⟩ entry_list_sort (list_sort_treeKAny (κ := strKind) strKind_oneLt hoL hI.keysOf (fun v₁ v₂ rest e => keyKind_strs (by rw [← e]; exact hI)) (by rw [hvl]; exact hL) fun st' hp hs => ?_) (args_list_sort _)))
  obtain ⟨ys, y1, y2, y3⟩ := sorted_out_str hI hp hs
  obtain ⟨c, hcc⟩ := sortedHeap_at (vs := vs) (out := (arrOf st').map (·.2)) hoL
  have old : ∀ b u, s.heap.get? b = some u → (sortedHeap (s1.heap.push (seqObj "list" vs.toArray 0)) s1.heap.objs.size vs ((arrOf st').map (·.2))).get? b = some u := fun b u e => by
    have k := k1 b u e
    have lt := Heap.lt_size k
    rw [sortedHeap_old (Nat.ne_of_lt lt) (by rw [size_push']; exact Nat.lt_succ_of_lt lt)]
    exact Heap.get?_push_of_some _ k
  have hlen : (ms ys).length ≤ sizeLine := by rw [List.length_map, y2.length_eq, List.length_map, hvl]; exact hL
  have hp0 : H s1.heap.objs.size = none := I.hok.fresh hz
  generalize sortedHeap (s1.heap.push (seqObj "list" vs.toArray 0)) s1.heap.objs.size vs ((arrOf st').map (·.2)) = h2 at old hcc
  have J : Inv X pins σ (upd H s1.heap.objs.size (.lst (ms ys))) { s with heap := h2, gens := s1.gens, drawn := s1.drawn, toks := s1.toks } := I.call (ch := []) (Un.laid old hz hp0) (I.hok.laid old hz ⟨hlen, _, c, vals_of_strs y1, hcc⟩) (by rw [g1]; exact I.bare) (fun _ k => nomatch k)
  have e : ({ s1 with heap := h2 } : Shared) = { s with heap := h2, gens := s1.gens, drawn := s1.drawn, toks := s1.toks } := by
    cases s1
    cases s
    cases o1
    rfl
  refine ⟨_, rfl, wpAny_pure ⟨_, rfl, .ref s1.heap.objs.size, _, ?_, rfl, q ys _ (y2.trans pk) nd y3 hp0⟩⟩
  show Inv X pins σ _ ({ s1 with heap := h2 } : Shared)
  rw [e]
  exact J
end Fx
/-! o(e, ..), the class of o has a __call__; o op p in a try's body -/
namespace Fx
open PySem PySem.Spec PySem.Calls PyProof.Rows L2
section
variable {M : Model} {A : Around} {E : Value → Shared → Prop} {s : Shared} {K : PySem.W.Frag} {pos : Pos} {x C : Addr} {Q : Value → Shared → Prop}
theorem own_with {args : List (Bool × Sem Value)} (hp : args.any (·.1) = false) (h : wpAny M A (evalArgs (.ref x) true args []) (fun a s₁ => (∃ ox od, PySem.W.InstAt s₁.heap x ox C od ∧ ox.data = .plain) ∧ wpAny M A (call (.ref x) a.pos a.kw) Q E s₁) E s) : wpAny M A (callWith pos (.ref x) [] args []) Q E s := by
  unfold callWith
  refine wpAny_bind (wpAny_holding (wpAny_mono h (fun a s₁ ⟨⟨ox, od, J, hd⟩, hc⟩ => wpAny_bind (wpAny_standAt ?_)) fun _ _ y => y))
  have pl : (args.any (·.1) || ([] : List (Option Str × Sem Value)).any (·.1.isNone)) = false := by rw [hp]; rfl
  simp only [pl]
  refine wpAny_bind ((PySem.W.kco_keeper (M := M) J hd).here (wpAny_bind (wpAny_mono (wpAny_operateT hc) (fun r s₂ hr => wpAny_bind (wpAny_holding (wpAny_point (wpAny_pure hr)))) fun _ _ y => y)))
end
section
variable {X : Cx} {k : Nat} {C : Addr} {CX : CXT} {ps : List Str} {sp : Sp} {W : WX} {x : Str} {p pos : Pos} {e : Expr} {es : List Expr} {ta : TE} {t : TA} {E : L2.St → XK}
def callB (K : PySem.W.Frag) (C : Addr) : Bool := match PySem.W.findIn K (.ref C) "__call__" with
  | some (some (.ref f)) => PySem.W.fnIn K f
  | _ => false
theorem callB_ok {K : PySem.W.Frag} {C f : Addr} (h : callB K C = true) (e : PySem.W.findIn K (.ref C) "__call__" = some (some (.ref f))) : PySem.W.fnIn K f = true := by
  unfold callB at h
  rw [e] at h
  exact h
theorem pAt {X : Cx} {CX : CXT} {E : XK} (h : Passes CX X E) (σ : L2.St) : PassesAt CX X σ E := fun pins H s e s' I c => h pins σ H s e s' I c
def tCallO (C : Addr) (sp : Sp) (E : L2.St → XK) (ta : TE) (t : TA) : TE := fun σ H Q => ta σ H fun x H1 => ∃ a, x = .ref a ∧ t σ H1 fun vs H2 => ∃ dx fs, H2 a = some (.ins C dx fs) ∧ sp (x :: vs) H2 Q (E σ)
theorem pe_callO (M : CalM X.prog X.w X.K X.mg X.base CX k C "__call__" ps sp) (hc : callB X.K C = true) (hr : Room k X.A) (hx : ∀ σ, PassesAt CX X σ (E σ)) (hn : PE X (.Name x p) ta) (ha : PA X (e :: es) t) (hs : (e :: es).all nostar = true := by rfl) :
    PE X (.Call (.Name x p) (e :: es) [] pos) (tCallO C sp E ta t) := by
  obtain ⟨f, fd, m, b, F⟩ := M.ex
  simp only [List.all_cons, Bool.and_eq_true] at hs
  refine ⟨fun pins s σ H Q I h => ?_⟩
  refine wpAny_Call_Name_kw (thn (hn.run pins s σ H _ I h) fun u s1 ⟨v, H1, I1, rv, a, ev, q⟩ => ?_)
  subst ev
  obtain rfl : u = Value.ref a := rv
  have pl : (backTo pos (starEach (e :: es) X.env)).any (·.1) = false := by
    rw [star_ok hs.1]
    show (false || (backTo pos (starEach es X.env)).any (·.1)) = false
    rw [back_ok hs.2]
    rfl
  refine own_with (C := C) pl ?_
  have hA := ha.run pos pins s1 σ H1 _ I1 q
  rw [star_ok hs.1] at hA ⊢
  refine evalArgs_plain (thn hA fun us s2 ⟨vs, H2, I2, r, dx, fs, h2, q2⟩ => ?_)
  obtain ⟨ox, od, J, hd⟩ : ∃ ox od, PySem.W.InstAt s2.heap a ox C od ∧ ox.data = .plain := by
    obtain ⟨mA, J, _⟩ := ins_get I2.hok h2
    obtain ⟨od, J, _⟩ := J.look
    exact ⟨_, od, J, rfl⟩
  refine ⟨⟨ox, od, J, hd⟩, ?_⟩
  have e0 := I2.env0
  have rr : Vals (V.ref a :: vs) (Value.ref a :: us) := .cons rfl r
  have hl : (Value.ref a :: us).length = ps.length := by rw [← rr.length]; exact F.len _ _ _ _ q2
  have bb := b s2 (Value.ref a :: us) I2.kIn (by rw [List.append_nil]; exact hl)
  rw [List.append_nil] at bb
  refine wpAny_call (PySem.W.kco_code I2.kIn J hd m.at_ m.fn (callB_ok hc m.at_) (codeAny_mono (F.run X.A X.stack s2 H2 ⟨.ref a :: us, []⟩ (.ref a :: us) (V.ref a :: vs) Q (E σ) hr e0 bb rr q2) fun rs s' hq => ?_))
  cases rs with
  | error ex => exact hx σ pins H2 s2 ex s' I2 hq
  | ok fl =>
    cases fl with
    | ret u => exact I2.after hq
    | next => exact False.elim hq
    | brk => exact False.elim hq
    | cont => exact False.elim hq
theorem run_at {A : Around} {f : Addr} {fd : FuncData} {pins : List (Addr × Obj)} {σ : L2.St} {H : Hp} {s : Shared} {Q : VK} {us : List Value} {vs : List V} (hA : A.frames = X.A.frames) (F : FnOk X.prog X.w X.K X.mg X.base CX k f fd ps sp) (hr : Room k A) (hb : Binds X.K fd ps []) (hx : PassesAt CX X σ (E σ))
    (I : Inv X pins σ H s) (r : Vals vs us) (h : sp vs H Q (E σ)) : wpAny (model X.prog X.w) A (call (.ref f) us) (EP X pins σ Q) X.xe s := by
  have e := I.env0
  have e0 : Env0 X.prog X.w X.K X.mg X.base A X.stack s H := ⟨by rw [hA]; exact e.frames, e.mod, e.bs, e.bsz, e.funs, e.frf, e.hok, e.bare⟩
  have hl : us.length = ps.length := r.length ▸ F.len _ _ _ _ h
  have bb := hb s us I.kIn (by rw [List.append_nil]; exact hl)
  rw [List.append_nil] at bb
  refine wpAny_call (codeAny_mono (F.run A X.stack s H ⟨us, []⟩ us vs Q (E σ) hr e0 bb r h) fun rs s' hq => ?_)
  cases rs with
  | error ex => exact hx pins H s ex s' I hq
  | ok fl =>
    cases fl with
    | ret u => exact I.after hq
    | next => exact False.elim hq
    | brk => exact False.elim hq
    | cont => exact False.elim hq
/-- o op p in a try's body -/
def tBinT (C : Addr) (sp : Sp) (E : L2.St → XK) (ta tb : TE) : TE := fun σ H Q => ta σ H fun x H1 => tb σ H1 fun y H2 => ∃ a b dx dy fs gs, x = .ref a ∧ y = .ref b ∧ H2 a = some (.ins C dx fs) ∧ H2 b = some (.ins C dy gs) ∧ sp [.ref a, .ref b] H2 (fun v H' => ∃ r, v = .ref r ∧ Q (.ref r) H') (E σ)
theorem pe_binT {op : Operator} {mn : Str} {a b : Expr} {tb : TE} (hop : PySem.dunder op.info.2 = mn) (M : CalM X.prog X.w X.K X.mg X.base CX k C mn ps sp) (hc : PySem.W.selfFirst X.K C = true) (hr : Room k X.A) (hx : ∀ σ, PassesAt CX X σ (E σ)) (ha : PE X a ta) (hb : PE X b tb) :
    PE X (.BinOp a op b pos) (tBinT C sp E ta tb) := by
  refine ⟨fun pins s σ H Q I h => wpAny_BinOp (binT ha hb I h fun v u s2 x y H2 I2 rx ry hq => ?_)⟩
  obtain ⟨f, fd, m, b, F⟩ := M.ex
  obtain ⟨a, c, dx, dy, fs, gs, rfl, rfl, h1, h2, hsp⟩ := hq
  cases rx
  cases ry
  subst hop
  obtain ⟨ox, od, J⟩ := inst_at I2 h1
  obtain ⟨oy, od', J'⟩ := inst_at I2 h2
  obtain ⟨mm, hF⟩ := I2.fr
  refine PySem.W.binop_K hF I2.ok.mod.kin J J'.type hc m.at_ m.fn (wpAny_mono (run_at (vs := [.ref a, .ref c]) (us := [.ref a, .ref c]) rfl F hr b (hx σ) I2 (.cons rfl (.cons rfl .nil)) hsp) (fun v s' hv => ?_) fun _ _ z => z)
  obtain ⟨z, H', I', rz, r, rfl, q⟩ := hv
  cases rz
  exact ⟨.ref r, H', I', rfl, q⟩
end
end Fx
/-! text += text, range with a step in a comprehension, a reading that depends on the slots -/
namespace Fx
open PySem PySem.Spec PyProof.Rows L2
section
variable {X : Cx} {pos : Pos}
def ipZ : TIp := fun x y H Q => ∃ a b, x = .str a ∧ y = .str b ∧ a.length + b.length ≤ sizeLine ∧ Q (.str (a ++ b)) H
theorem ip_addZ : PIp X .Add ipZ := fun pins s σ H x y v u Q I rx ry h => iop_add_str pins s σ H x y v u Q I rx ry h
/-- a reading that leans on the slots -/
def tDep (T : L2.St → TE) : TE := fun σ H Q => T σ σ H Q
theorem pe_dep {e : Expr} {T : L2.St → TE} (h : ∀ σ, PE X e (T σ)) : PE X e (tDep T) := ⟨fun pins s σ H Q I q => (h σ).run pins s σ H Q I q⟩
theorem cx_w {CX : CXT} {P : Program} {w : World} {K : PySem.W.Frag} {mg : Str → Option Value} {base : Heap} {N : List Str} {qual : Str} {scope : Scope} {f : Addr} {cd : Value} {A : Around} {outer : List Env} {s : Shared} {H : Hp} {E : XK} :
    (cxOf CX P w K mg base N qual scope f cd A outer s H E).w = w := rfl
end
theorem lc_rangeC {lo c : Int} {n : Nat} {g : TG} {tt : TT} {te : TE} {vs : List Nat} {σ : L2.St} {H1 : Hp} {D : Addr} {Qd : Hp → Prop} (Pv : Nat → Hp → Prop) (h0 : Pv 0 (upd H1 D (.lst [])))
    (hs : ∀ i H, i < n → Pv i H → g (.int (lo + (i : Nat) * c)) (wipe σ vs) H fun σ2 H2 => wipe σ2 vs = wipe σ vs ∧ tt σ2 H2 fun b H3 => if b = true then te σ2 H3 fun y H4 => ∃ acc, H4 D = some (.lst acc) ∧ acc.length < sizeLine ∧ Pv (i + 1) (upd H4 D (.lst (acc ++ [y]))) else Pv (i + 1) H3)
    (hd : ∀ H, Pv n H → Qd H) : ∃ W : Nat → Nat → Hp → Prop, (∃ m, W 0 m (upd H1 D (.lst []))) ∧ ∀ i m H, W i m H →
      ((Itc lo c n).stop i H ∧ Qd H) ∨ ((Itc lo c n).go i H ∧ ∃ Nx : Hp → Prop, (∀ H', Nx H' → ∃ m', m' < m ∧ W (i + 1) m' H') ∧ ∀ x H', (Itc lo c n).yld i H x H' → g x (wipe σ vs) H' fun σ2 H2 => wipe σ2 vs = wipe σ vs ∧ tt σ2 H2 fun b H3 =>
        if b = true then te σ2 H3 fun y H4 => ∃ acc, H4 D = some (.lst acc) ∧ acc.length < sizeLine ∧ Nx (upd H4 D (.lst (acc ++ [y]))) else Nx H3) := by
  refine ⟨fun i m H => m = n - i ∧ i ≤ n ∧ Pv i H, ⟨n, by omega, Nat.zero_le _, h0⟩, ?_⟩
  rintro i m H ⟨rfl, hi, p⟩
  rcases Nat.lt_or_ge i n with hlt | hge
  · refine .inr ⟨hlt, Pv (i + 1), fun H' p' => ⟨n - (i + 1), by omega, rfl, hlt, p'⟩, ?_⟩
    rintro x H' ⟨rfl, rfl⟩
    exact hs i _ hlt p
  · obtain rfl : i = n := by omega
    exact .inl ⟨Nat.le_refl _, hd H p⟩
theorem rgC_up {a b c : Int} {n : Nat} (hc : 0 < c) (hc2 : c < 1000000) (ha : -(2 ^ 60) ≤ a) (ha' : a ≤ 2 ^ 60) (hb : -(2 ^ 60) ≤ b) (hb' : b ≤ 2 ^ 60) (hn : (n : Int) = if a < b then (b - a - 1) / c + 1 else 0) : RgC a b c n := by
  have hz : Builtin.Range.rangeSize a b c = if a < b then (b - a - 1) / c + 1 else 0 := by
    unfold Builtin.Range.rangeSize
    rw [if_pos hc]
  refine ⟨by omega, by omega, ?_, by rw [hz, hn]⟩
  unfold Builtin.Range.small
  rw [hz]
  by_cases h : a < b
  · have h1 : (b - a - 1) / c ≤ b - a - 1 := Int.ediv_le_self _ (by omega)
    have h2 : 0 ≤ (b - a - 1) / c := Int.ediv_nonneg (by omega) (by omega)
    simp only [Builtin.Range.rangeFitsLong, Bool.and_eq_true, Bool.or_eq_true, decide_eq_true_eq, beq_iff_eq, if_pos h, if_pos hc]
    omega
  · simp only [Builtin.Range.rangeFitsLong, Bool.and_eq_true, Bool.or_eq_true, decide_eq_true_eq, beq_iff_eq, if_neg h, if_pos hc]
    omega
end Fx
/-! A def that is called in an except suite with plain arguments -/
namespace Fx
open PySem PySem.Spec PySem.Calls PyProof.Rows L2
structure FnQ (P : Program) (w : World) (K : PySem.W.Frag) (mg : Str → Option Value) (base : Heap) (k : Nat) (f : Addr) (fd : FuncData) (ps : List Str) (sp : Sp) : Prop where
  len : ∀ vs H Q E, sp vs H Q E → vs.length = ps.length
  run : ∀ (A : Around) (outer : List Env) (s : Shared) (H : Hp) (args : Args) (us : List Value) (vs : List V) (Q : VK) (p : Addr × Obj), L2H.RoomH k A → L2H.PinOk outer H s p → Env0 P w K mg base A outer s H → BindsTo s fd args (ps.zip us) → Vals vs us → sp vs H Q E0 →
    codeAny (model P w) A (.call (.ref f) args) (CR CX0 outer P w H s Q E0) s
theorem fn_ofQ {P : Program} {w : World} {K : PySem.W.Frag} {mg : Str → Option Value} {base : Heap} {k : Nat} {f : Addr} {name qual : Str} {params : Arguments} {body : List Stmt} {scope : Scope} {dV kV doc pm cdv ct oc : Value} {an od : Option Addr} {osl : Array (Option Value)} {N ps : List Str} {sp : Sp}
    (lk : K.lookup f = some ⟨oc, od, .func (PySem.W.fnOf name qual params body scope dV kV doc pm an cdv ct), osl⟩) (hcd : PySem.W.codeIn K cdv qual = true) (S : FnScope N ps scope) (len : ∀ vs H Q E, sp vs H Q E → vs.length = ps.length)
    (hbody : ∀ (A : Around) (outer : List Env) (s : Shared) (H : Hp) (vs : List V) (Q : VK) (p : Addr × Obj), L2H.RoomH k (A.deeper (envOfC qual scope s.heap.objs.size f cdv)) → sp vs H Q E0 → ∃ t, PSs (cxE P w K mg base N qual scope f cdv A outer s H p) body t ∧ t { nx := fun _ H' => Q .non H', rt := Q } (L2.start N vs) H) :
    FnQ P w K mg base (k + 1) f (PySem.W.fnOf name qual params body scope dV kV doc pm an cdv ct) ps sp := by
  refine ⟨len, fun A outer s H args us vs Q p hr hpin e0 hb rv hsp => ?_⟩
  have hl := len _ _ _ _ hsp
  have KX : K.In s.heap := e0.mod.kin.keeps fun b o e => (e0.bs b o e).1
  have lim : s.heap.NoLimit := e0.mod.nolimit.keeps fun b o e => (e0.bs b o e).1
  have hkind : ∀ y ∈ ps.zip us, scope.names.lookup y.1 = some .local ∨ (scope.names.lookup y.1 = some .cell ∧ ((cellsFrom (s.heap.objs.size + 1) scope.names []).lookup y.1).isSome = true) := by
    rintro ⟨n, v⟩ hy
    rcases S.par n (List.of_mem_zip hy).1 with q | q
    · exact .inl q
    · exact .inr ⟨q, PySem.W.cellsFrom_some _ _ _ (.inl q)⟩
  refine codeAny_call_function hr.depth (KX _ _ lk) rfl S.co S.gen rfl (PySem.W.codeRec_of KX hcd) (hb _ _ _ _ (wpAny_newFunctionEnv_cells S.kind hkind fun env he s1 y => ?_))
  subst he
  refine ⟨lim.keeps y.toInCall.keep, codeAny_func ?_⟩
  obtain ⟨t, ht, hq⟩ := hbody A outer s H vs Q p (hr.deeper _) hsp
  have I : Inv (L2H.cxH CX0 P w K mg base N qual scope f cdv A outer s H E0 p) [] (L2.start N vs) H s1 := L2H.inv_startH S hpin e0 hl rv y
  refine wpAny_mono (ht.nox.run [] s1 (L2.start N vs) H _ I hq) (fun fl s' hs => ?_) fun e s' hs => hs
  have fin : ∀ {σ' : L2.St} {H' : Hp} {v : V} {u : Value}, Inv (L2H.cxH CX0 P w K mg base N qual scope f cdv A outer s H E0 p) [] σ' H' s' → RelV v u → Q v H' → CE outer P w H s Q u s' := fun {σ' H' v u} J rv q => ⟨v, H', J.os, J.bare, J.base, J.hok, rv, q⟩
  cases fl with
  | ret u =>
    obtain ⟨v, σ', H', J, rv, q⟩ := hs
    exact fin J rv q
  | next =>
    obtain ⟨σ', H', J, q⟩ := hs
    exact fin (v := V.non) (u := Value.none) J rfl q
  | brk =>
    obtain ⟨_, _, _, q⟩ := hs
    exact False.elim q
  | cont =>
    obtain ⟨_, _, _, q⟩ := hs
    exact False.elim q
structure CalQ (P : Program) (w : World) (K : PySem.W.Frag) (mg : Str → Option Value) (base : Heap) (k : Nat) (x : Str) (ps : List Str) (sp : Sp) : Prop where
  ex : ∃ f fd, mg x = some (.ref f) ∧ PySem.W.keepIn K (.ref f) = true ∧ Binds K fd ps [] ∧ FnQ P w K mg base k f fd ps sp
theorem Src.calQ {P : Program} {w : World} {K : PySem.W.Frag} {mg : Str → Option Value} {base : Heap} {x : Str} {st : Stmt} {N ps : List Str} {k : Nat} {sp : Sp} (S : Src K mg x st) (sc : FnScope N ps (defScope st)) (bn : BindP x st ps) (len : ∀ vs H Q E, sp vs H Q E → vs.length = ps.length)
    (hbody : ∀ (f : Addr) (cdv : Value) (A : Around) (outer : List Env) (s : Shared) (H : Hp) (vs : List V) (Q : VK) (p : Addr × Obj), L2H.RoomH k (A.deeper (envOfC x (defScope st) s.heap.objs.size f cdv)) → sp vs H Q E0 →
      ∃ t, PSs (cxE P w K mg base N x (defScope st) f cdv A outer s H p) (defBody st) t ∧ t { nx := fun _ H' => Q .non H', rt := Q } (L2.start N vs) H) : CalQ P w K mg base (k + 1) x ps sp := by
  obtain ⟨f, fd, g, F⟩ := S
  have b := F.bindsN bn
  have kp := F.kp
  obtain ⟨oc, od, dV, kV, doc, pm, an, cdv, ct, osl, rfl, lk, hcd, _, _⟩ := F.ex
  exact ⟨f, _, g, kp, b, fn_ofQ lk hcd sc len fun A outer s H vs Q p hr hsp => hbody f cdv A outer s H vs Q p hr hsp⟩
section
variable {X : Cx} {k : Nat} {x : Str} {ps : List Str} {sp : Sp} {p pos : Pos} {e : Expr} {es : List Expr} {t : TA} {a : Addr} {oe : Obj} {pn : List (Addr × Obj)}
/-- f(e, ..) in the suite -/
theorem pe_calQ (C : CalQ X.prog X.w X.K X.mg X.base k x ps sp) (hr : Room k X.A) (ha : PA (X.suite a ((a, oe) :: pn)) (e :: es) t) (hg : Gl (X.suite a ((a, oe) :: pn)) x := by rfl) (hdb : (x == ("__debug__" : Str)) = false := by decide)
    (hs : (e :: es).all nostar = true := by rfl) : PE (X.suite a ((a, oe) :: pn)) (.Call (.Name x p) (e :: es) [] pos) (tCall sp [] E0 t) := by
  obtain ⟨f, fd, g, kp, b, F⟩ := C.ex
  simp only [List.all_cons, Bool.and_eq_true] at hs
  refine ⟨fun pins s σ H Q I h => wpAny_Call_Name_kw (ld_glob I hg g ?_ hdb)⟩
  refine PySem.W.callWith_K (h₀ := X.base) I.ok.mod.kin kp (thn (ha.run pos pins s σ H _ I h) fun us s1 ⟨vs, H1, I1, r, q⟩ => ⟨I1.kIn, ?_⟩) (star_ok hs.1) (back_ok hs.2)
  have q : sp (vs ++ []) H1 Q E0 := q
  rw [List.append_nil] at q
  have P1 := I1.pin (a, oe) (List.mem_append_left _ List.mem_cons_self)
  have hpin : L2H.PinOk X.stack H1 s1 (a, oe) := ⟨P1.1, P1.2.1, fun hm => (List.mem_cons.mp (I1.stkSub a hm)).elim P1.2.2.1 P1.2.2.2.1, P1.2.2.2.2⟩
  have hl : us.length = ps.length := by rw [← r.length]; exact F.len _ _ _ _ q
  have bb := b s1 us I1.kIn (by rw [List.append_nil]; exact hl)
  rw [List.append_nil] at bb
  refine wpAny_call (codeAny_mono (F.run (X.suite a ((a, oe) :: pn)).A X.stack s1 H1 ⟨us, []⟩ us vs Q (a, oe) ⟨hr.dp, hr.un⟩ hpin I1.env0 bb r q) fun rs s' hq => ?_)
  cases rs with
  | error e => exact False.elim hq
  | ok fl =>
    cases fl with
    | ret u => exact I1.after hq
    | next => exact False.elim hq
    | brk => exact False.elim hq
    | cont => exact False.elim hq
end
end Fx
/-! Walking an object of an own class whose __iter__ gives a tuple's iterator; a def with one default; a statement that is not reached -/
namespace Fx
open PySem PySem.Spec PyProof.Rows L2
/-- a def that keeps its promise, entered where the heap has at least n objects -/
structure FnOkN (P : Program) (w : World) (K : PySem.W.Frag) (mg : Str → Option Value) (base : Heap) (k n : Nat) (f : Addr) (fd : FuncData) (ps : List Str) (sp : Sp) : Prop where
  len : ∀ vs H Q E, sp vs H Q E → vs.length = ps.length
  run : ∀ (A : Around) (outer : List Env) (s : Shared) (H : Hp) (args : Args) (us : List Value) (vs : List V) (Q : VK) (E : XK), n ≤ s.heap.objs.size → Room k A → Env0 P w K mg base A outer s H → BindsTo s fd args (ps.zip us) → Vals vs us → sp vs H Q E →
    codeAny (model P w) A (.call (.ref f) args) (CR CX0 outer P w H s Q E) s
theorem fn_ofN {P : Program} {w : World} {K : PySem.W.Frag} {mg : Str → Option Value} {base : Heap} {k n : Nat} {f : Addr} {name qual : Str} {params : Arguments} {body : List Stmt} {scope : Scope} {dV kV doc pm cdv ct oc : Value} {an od : Option Addr}
    {osl : Array (Option Value)} {N ps : List Str} {sp : Sp} (lk : K.lookup f = some ⟨oc, od, .func (PySem.W.fnOf name qual params body scope dV kV doc pm an cdv ct), osl⟩) (hcd : PySem.W.codeIn K cdv qual = true) (S : FnScope N ps scope)
    (len : ∀ vs H Q E, sp vs H Q E → vs.length = ps.length)
    (hbody : ∀ (A : Around) (outer : List Env) (s : Shared) (H : Hp) (vs : List V) (Q : VK) (E : XK), n ≤ s.heap.objs.size → Room k (A.deeper (envOfC qual scope s.heap.objs.size f cdv)) → sp vs H Q E →
      ∃ t, PSs (cxOf CX0 P w K mg base N qual scope f cdv A outer s H E) body t ∧ t { nx := fun _ H' => Q .non H', rt := Q } (start N vs) H) :
    FnOkN P w K mg base (k + 1) n f (PySem.W.fnOf name qual params body scope dV kV doc pm an cdv ct) ps sp := by
  refine ⟨len, fun A outer s H args us vs Q E hn hr e0 hb r hsp => ?_⟩
  have hl := len _ _ _ _ hsp
  have KX : K.In s.heap := e0.mod.kin.keeps fun b o e => (e0.bs b o e).1
  have lim : s.heap.NoLimit := e0.mod.nolimit.keeps fun b o e => (e0.bs b o e).1
  have hkind : ∀ y ∈ ps.zip us, scope.names.lookup y.1 = some .local ∨ (scope.names.lookup y.1 = some .cell ∧ ((cellsFrom (s.heap.objs.size + 1) scope.names []).lookup y.1).isSome = true) := fun ⟨n, v⟩ hy => by
    rcases S.par n (List.of_mem_zip hy).1 with q | q
    · exact .inl q
    · exact .inr ⟨q, PySem.W.cellsFrom_some _ _ _ (.inl q)⟩
  refine codeAny_call_function hr.depth (KX _ _ lk) rfl S.co S.gen rfl (PySem.W.codeRec_of KX hcd) (hb _ _ _ _ ?_)
  refine wpAny_newFunctionEnv_cells S.kind hkind fun env he s1 x => ?_
  subst he
  refine ⟨lim.keeps x.toInCall.keep, codeAny_func ?_⟩
  obtain ⟨t, ht, hq⟩ := hbody A outer s H vs Q E hn (hr.deeper _) hsp
  have I : Inv (cxOf CX0 P w K mg base N qual scope f cdv A outer s H E) [] (start N vs) H s1 := inv_start S hr.hd e0 hl r x
  refine wpAny_mono (ht.run [] s1 (start N vs) H _ I hq) (fun fl s' hs => ?_) fun e s' hs => hs
  have fin : ∀ {σ' : L2.St} {H' : Hp} {v : V} {u : Value}, Inv (cxOf CX0 P w K mg base N qual scope f cdv A outer s H E) [] σ' H' s' → RelV v u → Q v H' → CE outer P w H s Q u s' :=
    fun {σ' H' v u} J rv q => ⟨v, H', J.os, J.bare, J.base, J.hok, rv, q⟩
  cases fl with
  | ret u =>
    obtain ⟨v, σ', H', J, rv, q⟩ := hs
    exact fin J rv q
  | next =>
    obtain ⟨σ', H', J, q⟩ := hs
    exact fin (v := V.non) (u := Value.none) J rfl q
  | brk =>
    obtain ⟨_, _, _, q⟩ := hs
    exact False.elim q
  | cont =>
    obtain ⟨_, _, _, q⟩ := hs
    exact False.elim q
/-- a method whose promise may speak of the objects that were there -/
structure CalMN (P : Program) (w : World) (K : PySem.W.Frag) (mg : Str → Option Value) (base : Heap) (k : Nat) (C : Addr) (m : Str) (ps : List Str) (spn : Nat → Sp) : Prop where
  ex : ∃ f fd, Meth K C m f ∧ Binds K fd ps [] ∧ ∀ n, FnOkN P w K mg base k n f fd ps (spn n)
section
variable {P : Program} {w : World} {K : PySem.W.Frag} {mg : Str → Option Value} {base : Heap} {k n : Nat} {ps N : List Str} {sp : Sp} {x qual : Str} {st : Stmt} {f : Addr} {fd : FuncData}
theorem ok0N (F : FunD K x qual (defArgs st) (defBody st) (defScope st) [] [] f fd) (sc : FnScope N ps (defScope st)) (len : ∀ vs H Q E, sp vs H Q E → vs.length = ps.length)
    (hbody : ∀ (f : Addr) (cdv : Value) (A : Around) (outer : List Env) (s : Shared) (H : Hp) (vs : List V) (Q : VK) (E : XK), n ≤ s.heap.objs.size → Room k (A.deeper (envOfC qual (defScope st) s.heap.objs.size f cdv)) → sp vs H Q E →
      ∃ t, PSs (cxOf CX0 P w K mg base N qual (defScope st) f cdv A outer s H E).nox (defBody st) t ∧ t { nx := fun _ H' => Q .non H', rt := Q } (L2.start N vs) H) : FnOkN P w K mg base (k + 1) n f fd ps sp := by
  obtain ⟨oc, od, dV, kV, doc, pm, an, cdv, ct, osl, rfl, lk, hcd, _, _⟩ := F.ex
  refine fn_ofN lk hcd sc len fun A outer s H vs Q E hn hr hsp => ?_
  obtain ⟨t, h, q⟩ := hbody f cdv A outer s H vs Q E hn hr hsp
  exact ⟨t, h.nox, q⟩
end
section
variable {X : Cx}
/-- iter(t), younger than the def's entry -/
def rIterTN (n : Nat) : List V → Hp → VK → Prop := fun xs H Q => ∃ t, xs = [.ref t] ∧ ∃ zs, FT H t zs ∧ ∀ it, H it = none → n ≤ it → Q (.ref it) (upd H it (TItO t it 0))
theorem iter_TN : CallR X (.builtin "iter") (rIterTN X.s_0.heap.objs.size) := by
  intro pins s σ H xs us Q I r h
  obtain ⟨t, rfl, zs, hq, q⟩ := h
  obtain ⟨u, rfl, ru⟩ := r.one
  cases ru
  obtain ⟨its, rv, pl, hz⟩ := I.tuple (xs := zs) hq.sq
  refine call_iterT0 pl ?_
  exact ⟨.ref s.heap.objs.size, _, I.laid (t' := s.toks) (fun b u e => Heap.get?_push_of_some _ e) (Nat.le_refl _) (titO_ok ⟨_, Heap.get?_push_size _ rfl, rfl, rfl⟩), rfl, q _ (I.hok.fresh (Nat.le_refl _)) I.sz⟩
/-- for .. in o, o of an own class -/
def iOwn (K : PySem.W.Frag) (C : Addr) (spn : Nat → Sp) (n : Nat) (te : TE) : TI := fun σ H R => te σ H fun x H1 => ∃ a dx fs, x = .ref a ∧ H1 a = some (.ins C dx fs) ∧
  spn n [.ref a] H1 (fun v H2 => ∃ it p, v = .ref it ∧ n ≤ it ∧ H2 it = some (TItO p it 0) ∧ R (Itt K p) (ItX.dropH H2 it)) E0
theorem pi_O {tg e : Expr} {te : TE} {k : Nat} {C : Addr} {ps : List Str} {spn : Nat → Sp} (M : CalMN X.prog X.w X.K X.mg X.base k C "__iter__" ps spn) (hr : Room k X.A) (he : PE X e te) : PI X tg e (iOwn X.K C spn X.s_0.heap.objs.size te) := by
  refine ⟨fun pins s σ H R I h => ?_⟩
  refine thn (he.run pins s σ H _ I h) fun v s1 ⟨x, H1, I1, r1, a, dx, fs, ex, ha, hsp⟩ => ?_
  subst ex
  cases r1
  obtain ⟨f, fd, m, b, F⟩ := M.ex
  obtain ⟨ox, od, J⟩ := inst_at I1 ha
  obtain ⟨mm, hF⟩ := I1.fr
  refine PySem.W.owit_iter hF I1.ok.mod.kin J m.at_ m.fn ?_
  have hb := b s1 [.ref a] I1.kIn (by simpa using (F _).len _ _ _ _ hsp)
  refine wpAny_call (codeAny_mono ((F X.s_0.heap.objs.size).run X.A X.stack s1 H1 ⟨[.ref a], []⟩ [.ref a] [.ref a] _ E0 I1.sz hr I1.env0 (by simpa using hb) (.cons rfl .nil) hsp) fun r s' hq => ?_)
  cases r with
  | error e => exact False.elim hq
  | ok fl =>
    cases fl with
    | next => exact False.elim hq
    | brk => exact False.elim hq
    | cont => exact False.elim hq
    | ret u =>
      obtain ⟨z, H2, I2, rz, it, p, ez, hn, hit, q⟩ := I1.after hq
      subst ez
      cases rz
      have hit0 : s'.heap.IsTupleIter it p 0 := (I2.hok it _ hit).1
      have hit' := hit
      unfold TItO at hit'
      unfold PySem.W.OwitIt
      refine wpAny_specialOf (name := Str.ofString "__next__") hit0.typeIs PySem.F.slot_tuple_iterator_next.lookup ?_
      refine ⟨it, [it], _, _, ItX.dropH H2 it, rfl, ItX.inv_drop I2 hit', turn_tuple p it, hit0, fun b hb => ?_, q⟩
      have e : b = it := by simpa using hb
      rw [e]
      exact ItX.inv_fp I2 hit hn
end
/-! ### a statement that is not reached -/
def tDead : TS := fun _ _ _ => False
theorem ps_dead {X : Cx} {st : Stmt} : PS X st tDead := ⟨fun _ _ _ _ _ _ h => h.elim⟩
/-! ### a def with one default -/
def SrcD (K : PySem.W.Frag) (mg : Str → Option Value) (x : Str) (st : Stmt) (dv : V) : Prop := ∃ f fd, mg x = some (.ref f) ∧ FunD K x x (defArgs st) (defBody st) (defScope st) [dv] [] f fd
structure CalD (P : Program) (w : World) (K : PySem.W.Frag) (mg : Str → Option Value) (base : Heap) (CX : CXT) (k : Nat) (x : Str) (ps : List Str) (dv : V) (sp : Sp) : Prop where
  ex : ∃ f fd ds, mg x = some (.ref f) ∧ PySem.W.keepIn K (.ref f) = true ∧ Binds K fd ps [] ∧ Vals [dv] ds ∧ Binds K fd ps ds ∧ FnOk P w K mg base CX k f fd ps sp
section
variable {P : Program} {w : World} {K : PySem.W.Frag} {mg : Str → Option Value} {base : Heap} {CX : CXT} {x : Str} {st : Stmt} {N ps : List Str} {k : Nat} {dv : V} {sp : Sp}
theorem CalD.full (M : CalD P w K mg base CX k x ps dv sp) : Cal P w K mg base CX k x ps sp := by
  obtain ⟨f, fd, ds, g, kp, b, _, _, F⟩ := M.ex
  exact ⟨f, fd, g, kp, b, F⟩
theorem SrcD.of (S : SrcD K mg x st dv) (n : Nat) (hn : n + 1 = ps.length) (b1 : BindD x x st ps (n + 1) 1) (b0 : BindD x x st ps n 0) (ok : ∀ {f fd}, FunD K x x (defArgs st) (defBody st) (defScope st) [dv] [] f fd → FnOk P w K mg base CX k f fd ps sp) : CalD P w K mg base CX k x ps dv sp := by
  obtain ⟨f, fd, g, F⟩ := S
  obtain ⟨ds1, v1, B1⟩ := F.binds1 (ps := ps) (n + 1) 1 (by simp) (by simpa using hn) b1
  obtain ⟨ds0, v0, B0⟩ := F.binds1 (ps := ps) n 0 (by simp) (by simpa using hn) b0
  have e : ds1 = [] := by
    cases v1
    rfl
  subst e
  exact ⟨f, fd, ds0, g, F.kp, B1, v0, B0, ok F⟩
end
section
variable {X : Cx} {CX : CXT} {E : XK} {k : Nat} {x : Str} {ps : List Str} {dv : V} {sp : Sp} {e : Expr} {es : List Expr} {t : TA} {p pos : Pos}
/-- f(e, ..), the last one by its default -/
theorem pe_calD (C : CalD X.prog X.w X.K X.mg X.base CX k x ps dv sp) (hr : Room k X.A) (hx : Passes CX X E) (ha : PA X (e :: es) t) (hg : Gl X x := by rfl) (hdb : (x == ("__debug__" : Str)) = false := by decide)
    (hs : (e :: es).all nostar = true := by rfl) : PE X (.Call (.Name x p) (e :: es) [] pos) (tCall sp [dv] E t) := by
  obtain ⟨f, fd, ds, g, kp, _, vd, b, F⟩ := C.ex
  simp only [List.all_cons, Bool.and_eq_true] at hs
  exact pe_call F hr hg g kp b vd hx ha hdb (star_ok hs.1) (back_ok hs.2)
end
/-! ### l.count(z) of a list of texts -/
def eqz (k : Str) (v : Value) : Bool := match v with
  | .str z _ => z.cps.toList == k.cps.toList
  | _ => false
theorem eqz_gives {k : Str} {t : Tok} : ∀ {us : List Value} {ns : List Str}, StrsAre us ns → ∀ y ∈ us, MeetsSeq.EqGives y (.str k t) (eqz k y)
  | _, _, .nil => fun y hy => by cases hy
  | _, _, .cons n t' h => fun y hy => by
    rcases List.mem_cons.mp hy with e | e
    · rw [e]
      exact SeqRoads2.EqGives.str n k t' t
    · exact eqz_gives h y e
theorem cps_beq (a b : Str) : (a.cps.toList == b.cps.toList) = (a == b) := by
  by_cases e : a = b
  · subst e
    simp
  · have h2 : ¬ a.cps.toList = b.cps.toList := fun h => e (by
      cases a with
      | mk x => cases b with
        | mk y => exact congrArg PySem.Str.mk (Array.toList_inj.mp h))
    rw [beq_eq_false_iff_ne.mpr e, beq_eq_false_iff_ne.mpr h2]
theorem eqz_count {k : Str} : ∀ {us : List Value} {ns : List Str}, StrsAre us ns → us.countP (eqz k) = ns.count k
  | _, _, .nil => rfl
  | _, _, .cons n t h => by
    have ih := eqz_count (k := k) h
    rw [List.countP_cons, List.count_cons, ih]
    show _ + (if (n.cps.toList == k.cps.toList) = true then 1 else 0) = _
    rw [cps_beq]
def rCntS : V → List V → Hp → VK → Prop := fun x xs H Q => ∃ (p : Addr) (z : Str), x = .ref p ∧ xs = [.str z] ∧ ∃ l : List Str, H p = some (.lst (ms l)) ∧ Q (.int (l.count z : Nat)) H
section
variable {X : Cx}
theorem cnt_L : MtR X "list.count" rCntS := by
  intro pins s σ H x xs v us Q I rx rxs h
  obtain ⟨p, k, rfl, rfl, ns, hs, q⟩ := h
  cases rx
  obtain ⟨u, rfl, ru⟩ := rxs.one
  obtain ⟨t, rfl⟩ := ru
  obtain ⟨its, rv, ⟨⟨cls, dd, data, sl⟩, n, ho, hc, hdn, hd⟩, hlen⟩ := I.list (xs := ms ns) (.inl (.inl hs))
  simp only at hc hd
  subst hc hd
  have hi := strs_of_vals rv
  refine call_meets PySem.F.slot_list_count ⟨_, ho, rfl⟩ PySem.F.entry_list_count (PySem.F.args_list_count_2 _ _)
    (SeqAt.list_countAt p its.toArray n dd sl (.str k t) (eqz k)) ⟨ho, fun y hy => (eqz_gives hi y (by simpa using hy)).at _ _, ?_⟩
  have ec : its.toArray.toList.countP (eqz k) = ns.count k := eqz_count hi
  refine ⟨.int (ns.count k : Nat), H, I.tok _, ⟨s.toks, ?_⟩, q⟩
  show Value.int ((its.toArray.toList.countP (eqz k) : Nat) : Int) s.toks = Value.int ((ns.count k : Nat) : Int) s.toks
  rw [ec]
end
theorem putNew {H H1 : Hp} {D : Addr} {o : HO} (x : Same H H1) (hD : H D = none) : Same H (upd H1 D o) := fun a o' h => by
  rw [upd_ne (ne_of_none h hD)]
  exact x a o' h
/-! ### list comprehensions over what stays: item i gives F i, one or none -/
def LcP (H1 : Hp) (D : Addr) (F : Nat → List V) (i : Nat) (H : Hp) : Prop := Same H1 H ∧ H D = some (.lst ((List.range i).map F).flatten)
section
variable {H1 H H4 : Hp} {D : Addr} {F : Nat → List V} {i : Nat} {y : V}
theorem flat_len1 (hF : ∀ i, (F i).length ≤ 1) : ∀ i, ((List.range i).map F).flatten.length ≤ i
  | 0 => Nat.le_refl _
  | i + 1 => by
    rw [List.range_succ, List.map_append, List.flatten_append, List.length_append]
    have h1 := flat_len1 hF i
    have h2 := hF i
    have h3 : (List.map F [i]).flatten.length = (F i).length := by
      rw [List.map_cons, List.map_nil, List.flatten_cons, List.flatten_nil, List.append_nil]
    rw [h3]
    omega
theorem flat_succ : ((List.range (i + 1)).map F).flatten = ((List.range i).map F).flatten ++ F i := by
  rw [List.range_succ, List.map_append, List.flatten_append]
  simp
theorem LcP.zero (nD : H1 D = none) : LcP H1 D F 0 (upd H1 D (.lst [])) := ⟨same_new nD, upd_same⟩
theorem LcP.put (h : LcP H1 D F i H) (nD : H1 D = none) (hF : ∀ i, (F i).length ≤ 1) (hi : i < 100000) (s : Same H H4) (e : F i = [y]) : ∃ acc, H4 D = some (.lst acc) ∧ acc.length < sizeLine ∧ LcP H1 D F (i + 1) (upd H4 D (.lst (acc ++ [y]))) :=
  ⟨_, s _ _ h.2, Nat.lt_of_le_of_lt (flat_len1 hF i) (Nat.lt_of_lt_of_le hi (by decide)), putNew (h.1.trans s) nD, by rw [upd_same, flat_succ, e]⟩
theorem LcP.skip (h : LcP H1 D F i H) (s : Same H H4) (e : F i = []) : LcP H1 D F (i + 1) H4 := ⟨h.1.trans s, by rw [s _ _ h.2, flat_succ, e, List.append_nil]⟩
end
section
variable {K : PySem.W.Frag} {a : Addr} {xs : List V} {g : TG} {tt : TT} {te : TE} {vs : List Nat} {σ : L2.St}
theorem lcL {H1 : Hp} {D : Addr} {Qd : Hp → Prop} (F : Nat → List V) (nD : H1 D = none) (hq : H1 a = some (.lst xs))
    (hs : ∀ i x H, xs[i]? = some x → LcP H1 D F i H → g x (wipe σ vs) H fun σ2 H2 => wipe σ2 vs = wipe σ vs ∧ tt σ2 H2 fun b H3 =>
      if b = true then te σ2 H3 fun y H4 => ∃ acc, H4 D = some (.lst acc) ∧ acc.length < sizeLine ∧ LcP H1 D F (i + 1) (upd H4 D (.lst (acc ++ [y]))) else LcP H1 D F (i + 1) H3) (hd : ∀ H, Same H1 H → H D = some (.lst ((List.range xs.length).map F).flatten) → Qd H) :
    ∃ W : Nat → Nat → Hp → Prop, (∃ m, W 0 m (upd H1 D (.lst []))) ∧ ∀ i m H, W i m H →
      ((Itl K a).stop i H ∧ Qd H) ∨ ((Itl K a).go i H ∧ ∃ Nx : Hp → Prop, (∀ H', Nx H' → ∃ m', m' < m ∧ W (i + 1) m' H') ∧ ∀ x H', (Itl K a).yld i H x H' → g x (wipe σ vs) H' fun σ2 H2 => wipe σ2 vs = wipe σ vs ∧ tt σ2 H2 fun b H3 =>
        if b = true then te σ2 H3 fun y H4 => ∃ acc, H4 D = some (.lst acc) ∧ acc.length < sizeLine ∧ Nx (upd H4 D (.lst (acc ++ [y]))) else Nx H3) :=
  lc_list (LcP H1 D F) (LcP.zero nD) (fun i H _ h => .inl (.inl (h.1 _ _ hq))) hs (fun H h => hd H h.1 h.2)
theorem lcT {H1 : Hp} {D : Addr} {Qd : Hp → Prop} (F : Nat → List V) (nD : H1 D = none) (hq : ∀ H, Same H1 H → SqT K H a xs)
    (hs : ∀ i x H, xs[i]? = some x → LcP H1 D F i H → g x (wipe σ vs) H fun σ2 H2 => wipe σ2 vs = wipe σ vs ∧ tt σ2 H2 fun b H3 =>
      if b = true then te σ2 H3 fun y H4 => ∃ acc, H4 D = some (.lst acc) ∧ acc.length < sizeLine ∧ LcP H1 D F (i + 1) (upd H4 D (.lst (acc ++ [y]))) else LcP H1 D F (i + 1) H3) (hd : ∀ H, Same H1 H → H D = some (.lst ((List.range xs.length).map F).flatten) → Qd H) :
    ∃ W : Nat → Nat → Hp → Prop, (∃ m, W 0 m (upd H1 D (.lst []))) ∧ ∀ i m H, W i m H →
      ((Itt K a).stop i H ∧ Qd H) ∨ ((Itt K a).go i H ∧ ∃ Nx : Hp → Prop, (∀ H', Nx H' → ∃ m', m' < m ∧ W (i + 1) m' H') ∧ ∀ x H', (Itt K a).yld i H x H' → g x (wipe σ vs) H' fun σ2 H2 => wipe σ2 vs = wipe σ vs ∧ tt σ2 H2 fun b H3 =>
        if b = true then te σ2 H3 fun y H4 => ∃ acc, H4 D = some (.lst acc) ∧ acc.length < sizeLine ∧ Nx (upd H4 D (.lst (acc ++ [y]))) else Nx H3) :=
  lc_tup (LcP H1 D F) (LcP.zero nD) (fun i H _ h => hq H h.1) hs (fun H h => hd H h.1 h.2)
/-- [.. for x in t], t a name of a list or a tuple -/
theorem lcQ {H : Hp} {Q : VK} {j : Nat} (F : Nat → List V) (hv : σ[j]? = some (some (.ref a))) (hq : Sq H a xs)
    (hs : ∀ D, H D = none → ∀ i x H', xs[i]? = some x → LcP H D F i H' → g x (wipe σ vs) H' fun σ2 H2 => wipe σ2 vs = wipe σ vs ∧ tt σ2 H2 fun b H3 =>
      if b = true then te σ2 H3 fun y H4 => ∃ acc, H4 D = some (.lst acc) ∧ acc.length < sizeLine ∧ LcP H D F (i + 1) (upd H4 D (.lst (acc ++ [y]))) else LcP H D F (i + 1) H3)
    (hd : ∀ D H', H D = none → Same H H' → H' D = some (.lst ((List.range xs.length).map F).flatten) → Q (.ref D) H') : tLc (iQ K (tVar j)) g tt te vs σ H Q := by
  rcases hq with hq | hq
  · exact .inl ⟨_, hv, a, rfl, ⟨_, .inl (.inl hq)⟩, fun D nD => lcL F nD hq (hs D nD) (fun H' => hd D H' nD)⟩
  · exact .inr ⟨_, hv, a, rfl, ⟨_, .inl (.inl hq)⟩, fun D nD => lcT F nD (fun H' s => .inl (.inl (s _ _ hq))) (hs D nD) (fun H' => hd D H' nD)⟩
end
/-- a loop over a list or tuple that was there before (at Hb) and stays -/
theorem forQ2 {K : PySem.W.Frag} {a : Addr} {xs : List V} {j : Nat} {g : TG} {tb : TS} {D : Ends} {σ : L2.St} {H Hb : Hp} (hv : σ[j]? = some (some (.ref a))) (hq : Sq Hb a xs) (Pv : Nat → L2.St → Hp → Prop) (h0 : Pv 0 σ H) (hS : ∀ i σ H', Pv i σ H' → Same Hb H')
    (hs : ∀ i x σ H, xs[i]? = some x → Pv i σ H → g x σ H fun σ2 H2 => tb { D with nx := Pv (i + 1), ct := Pv (i + 1), bk := D.nx } σ2 H2) (hd : ∀ σ H, Pv xs.length σ H → D.nx σ H) : tFor (iQ K (tVar j)) g tb D σ H := by
  rcases hq with hq | hq
  · exact .inl ⟨_, hv, a, rfl, ⟨_, .inl (.inl (hS _ _ _ h0 _ _ hq))⟩, for_list (K := K) (a := a) (xs := xs) Pv h0 (fun i σ H' _ p => .inl (.inl (hS i σ H' p _ _ hq))) hs hd⟩
  · exact .inr ⟨_, hv, a, rfl, ⟨_, .inl (.inl (hS _ _ _ h0 _ _ hq))⟩, for_tup (K := K) (a := a) (xs := xs) Pv h0 (fun i σ H' _ p => .inl (.inl (hS i σ H' p _ _ hq))) hs hd⟩
/-- o.m(e, ..) of a builtin, in a comprehension -/
theorem pe_bmK {X : Cx} {K : PySem.W.Frag} {T name id : String} {r : V → List V → Hp → VK → Prop} {o e : Expr} {es : List Expr} {to : TE} {t : TA} {apos cpos : Pos} (hK : X.K = K) (pa : PlainAttrs T) (slot : Slot T name id) (hty : typeOf (.builtin id) = pure (.type "method_descriptor")) (hm : MtR X id r) (ho : PE X o to) (ha : PA X (e :: es) t)
    (hbase : attributeBase o name X.env (eval o X.env) = eval o X.env := by rfl)
    (hfew : ((backTo cpos (starEach (e :: es) X.env)).all (fun x => !x.1) && (backToKw cpos (keywordEach [] X.env)).all (fun x => x.1.isSome)
      && decide ((e :: es).length + ([] : List Keyword).length + (if ([] : List Keyword).isEmpty then 0 else 1) < 30)) = true := by rfl)
    (hline : (apos.endLine == cpos.line) = true := by rfl) (hs : starEach (e :: es) X.env = (false, eval e X.env) :: starEach es X.env := by rfl) (hplain : (backTo cpos (starEach es X.env)).any (·.1) = false := by rfl) :
    PE X (.Call (.Attribute o name apos) (e :: es) [] cpos) (tBM K T r to t) := by
  subst hK
  exact pe_bm pa slot hty hm ho ha hbase hfew hline hs hplain
/-- list(a list or a tuple) -/
def rLstQ : List V → Hp → VK → Prop := fun vs H Q => ∃ p ys, vs = [.ref p] ∧ Sq H p ys ∧ ∀ l, H l = none → Q (.ref l) (upd H l (.lst ys))
theorem list_Q {X : Cx} : CallR X (.type "list") rLstQ := CallR.imp call_list_of fun xs H Q ⟨p, ys, e, h, q⟩ => ⟨p, ys, e, h.elim (fun h => .inl (.inl (.inl h))) (fun h => .inr (.inl (.inl h))), q⟩
end Fx
/-! Methods with one default, called by position, by name, without it; list(range(..)) -/
namespace Fx
open PySem PySem.Spec PyProof.Rows L2
abbrev BindK (x q : Str) (st : Stmt) (ps : List Str) (kw : Str) (n : Nat) : Prop := ∀ (T : Addr) (kV doc pm : Value) (an : Option Addr) (cdv ct : Value) (us its : List Value) (v : Value), us.length = n → its.length = 1 →
  ∃ k, bindArgs (PySem.W.fnOf x q (defArgs st) (defBody st) (defScope st) (.ref T) kV doc pm an cdv ct) ⟨us, [(kw, v)]⟩ = seqItems? (.ref T) >>= k ∧ k (some its.toArray) = pure (ps.zip (us ++ [v]))
def KwLast (K : PySem.W.Frag) (fd : FuncData) (ps : List Str) (kw : Str) : Prop := ∀ (s : Shared) (us : List Value) (v : Value), K.In s.heap → (us ++ [v]).length = ps.length → BindsTo s fd ⟨us, [(kw, v)]⟩ (ps.zip (us ++ [v]))
structure CalMD (P : Program) (w : World) (K : PySem.W.Frag) (mg : Str → Option Value) (base : Heap) (CX : CXT) (k : Nat) (C : Addr) (m : Str) (ps : List Str) (dv : V) (kw : Str) (sp : Sp) : Prop where
  ex : ∃ f fd ds, Meth K C m f ∧ Binds K fd ps [] ∧ Vals [dv] ds ∧ Binds K fd ps ds ∧ KwLast K fd ps kw ∧ FnOk P w K mg base CX k f fd ps sp
section
variable {P : Program} {w : World} {K : PySem.W.Frag} {mg : Str → Option Value} {base : Heap} {CX : CXT} {k : Nat} {C : Addr} {m : Str} {ps : List Str} {dv : V} {kw : Str} {sp : Sp}
theorem kwLast_of {x q : Str} {st : Stmt} {f : Addr} {fd : FuncData} (F : FunD K x q (defArgs st) (defBody st) (defScope st) [dv] [] f fd) (n : Nat) (hn : n + 1 = ps.length) (h : BindK x q st ps kw n) : KwLast K fd ps kw := by
  obtain ⟨oc, od, dV, kV, doc, pm, an, cdv, ct, osl, rfl, lk, hcd, hD, hK⟩ := F.ex
  rcases hD with ⟨e, _⟩ | ⟨_, T, o, its, m, rfl, lT, oT, rT⟩
  · exact absurd e (by simp)
  · intro s us v X hlen
    have l1 : its.length = 1 := rT.length.symm
    have l2 : us.length = n := by
      rw [List.length_append, List.length_singleton] at hlen
      omega
    obtain ⟨k, e1, e2⟩ := h T kV doc pm an cdv ct us its v l2 l1
    refine BindsTo.of_looks fun M => ?_
    rw [e1]
    exact looks_items X lT oT (.of_pure e2)
theorem calMD_of {x q : Str} {st : Stmt} {f : Addr} {fd : FuncData} (F : FunD K x q (defArgs st) (defBody st) (defScope st) [dv] [] f fd) (M : Meth K C m f) (n : Nat) (hn : n + 1 = ps.length) (b1 : BindD x q st ps (n + 1) 1) (b0 : BindD x q st ps n 0) (bk : BindK x q st ps kw n) (ok : FnOk P w K mg base CX k f fd ps sp) : CalMD P w K mg base CX k C m ps dv kw sp := by
  obtain ⟨ds1, v1, B1⟩ := F.binds1 (ps := ps) (n + 1) 1 (by simp) (by simpa using hn) b1
  obtain ⟨ds0, v0, B0⟩ := F.binds1 (ps := ps) n 0 (by simp) (by simpa using hn) b0
  have e : ds1 = [] := by
    cases v1
    rfl
  subst e
  exact ⟨f, fd, ds0, M, B1, v0, B0, kwLast_of F n hn bk, ok⟩
theorem KwLast.to {fd : FuncData} (h : KwLast K fd ps kw) (b : Binds K fd ps []) : KBinds K fd ps [kw] (fun us ws => us ++ ws.take 1) (fun vs zs => vs ++ zs.take 1) where
  to s us ws X hl := match ws, hl with
    | [], hl => by
      have e := b s us X (by simpa using hl)
      exact e
    | w :: r, hl => h s us w X hl
  rel r rz := r.append (rz.take 1)
end
section
variable {X : Cx} {k : Nat} {f C : Addr} {fd : FuncData} {ps : List Str} {sp : Sp} {x m kw : Str} {p pos apos : Pos} {e o : Expr} {es : List Expr} {kws : List Keyword} {ta : TE} {t tk : TA} {CX : CXT} {E : XK}
/-- o.m(e, .., kw = v) -/
def tMethK (C : Addr) (m : Str) (sp : Sp) (E : XK) (ta : TE) (t tk : TA) : TE := fun σ H Q => ta σ H fun x H1 => ∃ a dx fs, x = .ref a ∧ H1 a = some (.ins C dx fs) ∧ fs.lookup m = none ∧ t σ H1 fun vs H2 => tk σ H2 fun zs H3 => ∃ z, zs = [z] ∧ sp (x :: (vs ++ [z])) H3 Q E
theorem pe_methK {pl : Sem Bool} (he : PE X o ta) (c : Cls X.K C) (hm : Meth X.K C m f) (F : FnOk X.prog X.w X.K X.mg X.base CX k f fd ps sp) (hr : Room k X.A) (hb : Binds X.K fd ps []) (hl : KwLast X.K fd ps kw) (hx : Passes CX X E) (ha : PA X (e :: es) t) (hkw : PK X kws tk)
    (hall : (backToKw pos (keywordEach kws X.env)).all (·.1.isSome) = true := by rfl) (hks : (backToKw pos (keywordEach kws X.env)).filterMap (·.1) = [kw] := by rfl)
    (hst : starEach (e :: es) X.env = (false, eval e X.env) :: starEach es X.env := by rfl) (hpl : ((backTo pos (starEach (e :: es) X.env)).any (·.1) || (backToKw pos (keywordEach kws X.env)).any (·.1.isNone)) = false := by rfl)
    (ht : eval (.Call (.Attribute o m apos) (e :: es) kws pos) X.env = (do
      let ov ← eval o X.env
      standAt apos.atName
      let (f, first) ← holding [ov] (getMethod ov m pl)
      callWith pos f first (backTo pos (starEach (e :: es) X.env)) (backToKw pos (keywordEach kws X.env))) := by rfl) :
    PE X (.Call (.Attribute o m apos) (e :: es) kws pos) (tMethK C m sp E ta t tk) := by
  refine ⟨fun pins s σ H Q I h => ?_⟩
  refine PySem.W.methodCall_KW (pl := pl) (thn (he.run pins s σ H _ I h) fun u s1 ⟨x, H1, I1, rx, a, dx, fs, ex, ea, l, q⟩ => ?_) ht
  subst ex
  obtain rfl : u = Value.ref a := rx
  refine getmeth_ok I1 ea c hm l ?_
  refine PySem.W.callWith_KW (first := [.ref a]) (h₀ := X.base) I.ok.mod.kin hm.kp hall (thn (ha.run pos pins s1 σ H1 _ I1 q) fun us s2 ⟨vs, H2, I2, r, q2⟩ => ?_) hpl hst
  refine thn (hkw.run pos pins s2 σ H2 _ I2 q2) fun ws s3 ⟨zs, H3, I3, rz, z, ez, q3⟩ => ⟨I3.kIn, ?_⟩
  rw [hks]
  subst ez
  exact run_fnk (us := .ref a :: us) (vs := .ref a :: vs) F hr (hl.to hb) hx I3 (.cons rfl r) rz q3
end
/-- a while by a count that falls; the test's ways stay folded -/
theorem whileF {c : TT} {tb : TS} {D : Ends} {σ : L2.St} {H : Hp} (W : Nat → L2.St → Hp → Prop) (m : Nat) (h0 : W m σ H)
    (hs : ∀ m σ H, W m σ H → ∀ A B : Hp → Prop, (∀ H1, tb { D with nx := fun σ' H' => ∃ m', m' < m ∧ W m' σ' H', ct := fun σ' H' => ∃ m', m' < m ∧ W m' σ' H', bk := D.nx } σ H1 → A H1) → (∀ H1, D.nx σ H1 → B H1) → c σ H fun b H1 => if b = true then A H1 else B H1) : tWhile c tb D σ H := by
  refine ⟨W, ⟨m, h0⟩, fun m σ H p => ?_⟩
  exact hs m σ H p _ _ (fun H1 t => ⟨fun σ' H' => ∃ m', m' < m ∧ W m' σ' H', fun σ' H' k => k, t⟩) (fun H1 x => x)
end Fx
/-! Order of data: x > y of lists, sorted of data; a def with one default, by name -/
namespace Fx
open PySem PySem.Spec PyProof.Rows L2
def rGtD (K : PySem.W.Frag) : R2 := fun x y H Q => ∃ d e, Dp K H x d ∧ Dp K H y e ∧ PySem.W.alike d e = true ∧ d ≠ .none ∧ d.depth ≤ 8 ∧ Q (.bl (PySem.W.dataLt e d)) H
theorem op_gtD {X : Cx} (hu : X.A.units + 64 < cLine) : OpR X (compareOp .Gt) (rGtD X.K) := by
  intro pins s σ H x y v u Q I rx ry h
  obtain ⟨d, e, hd, he, al, nn, dp, q⟩ := h
  obtain ⟨as, r1⟩ := Dp.reads I d x v hd rx
  obtain ⟨bs, r2⟩ := Dp.reads I e y u he ry
  exact PySem.W.gt_data r1 r2 al nn (by omega) ⟨.bl _, H, I, rfl, q⟩
abbrev srtD (ps : List (V × PyData)) : List (V × PyData) := ps.mergeSort (PySem.W.dataLe false (fun p => p.2))
/-- sorted(xs), xs a list of tuples of any number, that are alike -/
def rSortD (K : PySem.W.Frag) : List V → Hp → VK → Prop := fun vs H Q => ∃ (a : Addr) (ps : List (V × PyData)), vs = [V.ref a] ∧ SqL K H a (ps.map (·.1)) ∧ (∀ p ∈ ps, Dp K H p.1 p.2) ∧ (∀ p ∈ ps, ∀ q ∈ ps, PySem.W.alike p.2 q.2 = true) ∧ (∀ p ∈ ps, ∃ x r, p.2 = .tuple (x :: r)) ∧ (∀ p ∈ ps, p.2.depth ≤ 8) ∧
  ∀ q, H q = none → Q (.ref q) (upd H q (.lst ((srtD ps).map (·.1))))
theorem each_of {X : Cx} {pins : List (Addr × Obj)} {σ : L2.St} {H : Hp} {s : Shared} (I : Inv X pins σ H s) : ∀ {ps : List (V × PyData)} {its : List Value}, Vals (ps.map (·.1)) its → (∀ p ∈ ps, Dp X.K H p.1 p.2) →
    PySem.W.EachIs (fun v (p : V × PyData) => RelV p.1 v) its ps ∧ PySem.W.EachIs (fun v (p : V × PyData) => ∃ as, Reads s.heap v p.2 as) its ps
  | [], its, r, _ => by
    cases r
    exact ⟨.nil, .nil⟩
  | p :: ps, its, r, h => by
    cases r with
    | cons r1 r2 =>
      obtain ⟨e1, e2⟩ := each_of I r2 fun q hq => h q (List.mem_cons_of_mem _ hq)
      exact ⟨.cons r1 e1, .cons (Dp.reads I p.2 p.1 _ (h p List.mem_cons_self) r1) e2⟩
theorem vals_each : ∀ {ps : List (V × PyData)} {out : List Value}, PySem.W.EachIs (fun v (p : V × PyData) => RelV p.1 v) out ps → Vals (ps.map (·.1)) out
  | _, _, .nil => .nil
  | _, _, .cons h t => .cons h (vals_each t)
theorem sort_D {X : Cx} (hu : X.A.units + 64 < cLine) : CallR X (.builtin "sorted") (rSortD X.K) := by
  intro pins s σ H vs us Q I r h
  obtain ⟨a, ps, rfl, hs, hd, al, tp, dp, q⟩ := h
  obtain ⟨its, rv, hl, hz⟩ := I.list hs
  obtain ⟨u, rfl, ru⟩ := r.one
  cases ru
  obtain ⟨e1, e2⟩ := each_of I rv hd
  have hz2 : ps.length ≤ sizeLine := by
    rw [List.length_map] at hz
    exact hz
  refine PySem.W.sorted_data (enc := fun p : V × PyData => p.2) hl.isList e1 e2 ?_ ?_ hz2 (fun b hb => by have := dp b hb; omega) fun out ol he => ?_
  · intro d hd d' hd'
    obtain ⟨b, hb, rfl⟩ := List.mem_map.mp hd
    obtain ⟨b', hb', rfl⟩ := List.mem_map.mp hd'
    exact al b hb b' hb'
  · refine .inl fun d hd => ?_
    obtain ⟨b, hb, rfl⟩ := List.mem_map.mp hd
    exact tp b hb
  obtain ⟨ep, he'⟩ := PyProof.Rows.sortedAll_at s.heap its out.toArray
  have hlen : ((srtD ps).map (·.1)).length ≤ sizeLine := by
    rw [List.length_map, List.length_mergeSort]
    exact hz2
  exact ⟨.ref _, upd H (s.heap.objs.size + 1) (.lst ((srtD ps).map (·.1))), I.laid (t' := s.toks) (fun _ _ => PyProof.Rows.sortedAll_old) (Nat.le_succ _) ⟨hlen, out, ep, vals_each he, he'⟩, rfl, q _ (I.hok.fresh (Nat.le_succ _))⟩
/-! ### a def with one default, by name -/
structure CalDK (P : Program) (w : World) (K : PySem.W.Frag) (mg : Str → Option Value) (base : Heap) (CX : CXT) (k : Nat) (x : Str) (ps : List Str) (dv : V) (kw : Str) (sp : Sp) : Prop where
  ex : ∃ f fd ds, mg x = some (.ref f) ∧ PySem.W.keepIn K (.ref f) = true ∧ Binds K fd ps [] ∧ Vals [dv] ds ∧ Binds K fd ps ds ∧ KwLast K fd ps kw ∧ FnOk P w K mg base CX k f fd ps sp
section
variable {P : Program} {w : World} {K : PySem.W.Frag} {mg : Str → Option Value} {base : Heap} {CX : CXT} {x : Str} {st : Stmt} {N ps : List Str} {k : Nat} {dv : V} {kw : Str} {sp : Sp}
theorem CalDK.d (M : CalDK P w K mg base CX k x ps dv kw sp) : CalD P w K mg base CX k x ps dv sp := by
  obtain ⟨f, fd, ds, g, kp, b, v, b0, _, F⟩ := M.ex
  exact ⟨f, fd, ds, g, kp, b, v, b0, F⟩
theorem CalDK.full (M : CalDK P w K mg base CX k x ps dv kw sp) : Cal P w K mg base CX k x ps sp := M.d.full
theorem SrcD.ofK (S : SrcD K mg x st dv) (n : Nat) (hn : n + 1 = ps.length) (b1 : BindD x x st ps (n + 1) 1) (b0 : BindD x x st ps n 0) (bk : BindK x x st ps kw n) (ok : ∀ {f fd}, FunD K x x (defArgs st) (defBody st) (defScope st) [dv] [] f fd → FnOk P w K mg base CX k f fd ps sp) : CalDK P w K mg base CX k x ps dv kw sp := by
  obtain ⟨f, fd, g, F⟩ := S
  obtain ⟨ds1, v1, B1⟩ := F.binds1 (ps := ps) (n + 1) 1 (by simp) (by simpa using hn) b1
  obtain ⟨ds0, v0, B0⟩ := F.binds1 (ps := ps) n 0 (by simp) (by simpa using hn) b0
  have e : ds1 = [] := by
    cases v1
    rfl
  subst e
  exact ⟨f, fd, ds0, g, F.kp, B1, v0, B0, kwLast_of F n hn bk, ok F⟩
end
section
variable {X : Cx} {CX : CXT} {E : XK} {k : Nat} {x kw : Str} {ps : List Str} {dv : V} {sp : Sp} {e : Expr} {es : List Expr} {kws : List Keyword} {t tk : TA} {p pos : Pos}
/-- f(e, .., kw = v) -/
theorem pe_calDK (C : CalDK X.prog X.w X.K X.mg X.base CX k x ps dv kw sp) (hr : Room k X.A) (hx : Passes CX X E) (ha : PA X (e :: es) t) (hkw : PK X kws tk) (hg : Gl X x := by rfl)
    (hall : (backToKw pos (keywordEach kws X.env)).all (·.1.isSome) = true := by rfl) (hks : (backToKw pos (keywordEach kws X.env)).filterMap (·.1) = [kw] := by rfl)
    (hdb : (x == ("__debug__" : Str)) = false := by decide) (he : starEach (e :: es) X.env = (false, eval e X.env) :: starEach es X.env := by rfl)
    (hpl : ((backTo pos (starEach (e :: es) X.env)).any (·.1) || (backToKw pos (keywordEach kws X.env)).any (·.1.isNone)) = false := by rfl) :
    PE X (.Call (.Name x p) (e :: es) kws pos) (tCallK sp (fun vs zs => vs ++ zs.take 1) E t tk) := by
  obtain ⟨f, fd, ds, g, kp, b, _, _, kl, F⟩ := C.ex
  exact pe_callK F hr hg g kp (kl.to b) hx ha hkw hall hks hdb he hpl
end
theorem blkOk_cast {N : List Str} {sc sc' scope : Scope} {own : List (Str × Nat)} (e : sc' = sc) (h : BlkOk N sc scope own) : BlkOk N sc' scope own := e ▸ h
end Fx
/-! list(o) of an object whose __iter__ gives a list's iterator; an own __setitem__; a staticmethod called by its class; several except clauses with a name -/
namespace Fx
open PySem PySem.Spec PyProof.Rows L2
/-! ### iter(t), t a tuple; list(o) of an instance whose __iter__ says iter(self.f) -/
def LItO (p it : Addr) (i : Nat) : HO := .ext fun h => h.IsListIter it p i
theorem litO_ok {P : Program} {w : World} {H : Hp} {h : Heap} {p it : Addr} {i : Nat} (e : h.IsListIter it p i) : ObjOk P w H h it (LItO p it i) := ⟨e, let ⟨o, ho, _⟩ := e; ⟨o, ho⟩, fun h1 h2 q k => let ⟨o, ho, r⟩ := q; ⟨o, k _ ho, r⟩⟩
section
variable {prog : Program} {w : World} {A : Around} {E : Value → Shared → Prop} {s : Shared}
theorem call_iterL0 {t : Addr} {items : Array Value} {Q : Value → Shared → Prop} (hl : s.heap.IsList t items) (h : Q (.ref s.heap.objs.size) { s with heap := s.heap.push { cls := .type "list_iterator", data := .fields #[.ref t, .int 0 0] } }) : wpAny (model prog w) A (call (.builtin "iter") [.ref t]) Q E s := by
  refine Calls.call_function_entry (by decide +kernel) (by decide +kernel) PySem.W.kdk_entry_iter (PySem.W.kdk_args_iter _) ?_
  unfold Builtin.«iter»
  refine wpAny_bind (m := someArgs "iter" 1 2 _) (wpAny_of_eq (a := [Value.ref t]) (by first | rfl | kernel_rfl!) ?_)
  show wpAny _ _ (pyIter (.ref t) >>= _) _ _ _
  refine wpAny_bind (wpAny_pyIter_list hl ?_)
  exact wpAny_pure ⟨_, rfl, h⟩
/-- the end, with the iterator still there -/
theorem next_list_endX {it t : Addr} {i : Nat} {items : Array Value} {Q : Option Value → Shared → Prop} (hh : A.handled = none)
    (hit : s.heap.IsListIter it t i) (ht : s.heap.IsList t items) (hx : items[i]? = none)
    (hQ : ∀ h', Heap.ExtBut it s.heap h' → (∃ o, h'.get? it = some o) → Q none { s with heap := h' }) : wpAny (model prog w) A (pyNext (.ref it)) Q E s := by
  obtain ⟨o, ho, hc, hd⟩ := id hit
  obtain ⟨ol, hol, _, nl, hdl⟩ := ht
  unfold pyNext
  refine wpAny_bind (wpAny_attempt (wpAny_callSpecial?_slot (name := Str.ofString "__next__") hit.typeIs slot_listiter_next
    (wpAny_call_entry slot_listiter_next hit.typeIs entry_listiter_next ?_ (args_listiter_next _))))
  show wpAny _ _ (field (.ref it) 0 >>= _) _ _ s
  refine wpAny_bind (wpAny_field ho hd (x := .ref t) rfl ?_)
  show wpAny _ _ (if (Value.ref t == Value.none) = true then _ else _) _ _ s
  rw [if_neg (show ¬ ((Value.ref t == Value.none) = true) from Bool.false_ne_true)]
  show wpAny _ _ (field (.ref it) 1 >>= _) _ _ s
  refine wpAny_bind (wpAny_field ho hd (x := .int i 0) rfl ?_)
  show wpAny _ _ (seqItems? (.ref t) >>= _) _ _ s
  refine wpAny_bind (wpAny_seqItems hol hdl ?_)
  simp only [Int.toNat_natCast, hx]
  refine wpAny_bind (wpAny_rule (wpAny_bind (wpAny_setField ho hd (by simp) ?_)))
  show wpAny _ _ (newExc (.type "StopIteration") [] >>= _) _ _ _
  refine wpAny_bind ?_
  simp only [newExc, newTuple]
  refine wpAny_bind (wpAny_newObj_type ?_ (by size_fits))
  refine wpAny_bind (m := firstArgMember _ _) (wpAny_of_eq (a := Value.none) (by first | rfl | (simp only [firstArgMember]; rfl)) ?_)
  refine wpAny_newObj_type ?_ (by size_fits)
  simp only [raiseNew]
  refine wpAny_bind (wpAny_handled ?_)
  first | rw [show A.in1.handled = none from hh] | rw [hh]
  refine wpAny_bind (wpAny_pure (wpAny_throw ?_))
  refine wpAny_bind (wpAny_isInstance (T := "StopIteration") (b := true) ⟨_, Heap.get?_push_size _ rfl, rfl⟩ isSubtype_stop ?_)
  refine wpAny_pure (hQ _ (((Heap.SameBut.update ..).extBut.push _).push _) ⟨_, Heap.get?_push_of_some _ (Heap.get?_push_of_some _ (Heap.get?_update_self _ ho (Obj.isFreed_of_fields (Obj.data_mapFields hd _))))⟩)
end
section
variable {X : Cx}
/-- iter(t) -/
def rIterL : List V → Hp → VK → Prop := fun xs H Q => ∃ t, xs = [.ref t] ∧ ∃ zs, H t = some (.lst zs) ∧ ∀ it, H it = none → Q (.ref it) (upd H it (LItO t it 0))
theorem iter_L : CallR X (.builtin "iter") rIterL := by
  intro pins s σ H xs us Q I r h
  obtain ⟨t, rfl, zs, hq, q⟩ := h
  obtain ⟨u, rfl, ru⟩ := r.one
  cases ru
  obtain ⟨its, rv, pl, hz⟩ := I.list (xs := zs) (.inl (.inl hq))
  refine call_iterL0 pl.isList ?_
  exact ⟨.ref s.heap.objs.size, _, I.laid (t' := s.toks) (fun b u e => Heap.get?_push_of_some _ e) (Nat.le_refl _) (litO_ok ⟨_, Heap.get?_push_size _ rfl, rfl, rfl⟩), rfl, q _ (I.hok.fresh (Nat.le_refl _))⟩
variable {pins : List (Addr × Obj)} {σ : L2.St} {A1 : Around}
theorem lst_loop {H0 : Hp} {p it q : Addr} {ys : List V} {Rs : Result → Shared → Prop} (hh : A1.handled = none) (hiq : it ≠ q) (hpi : p ≠ it) (hpq : p ≠ q) (hp : H0 p = some (.lst ys)) (hl : ys.length ≤ sizeLine)
    (hdone : ∀ s, Inv X pins σ (upd (upd H0 it (EndO it)) q (.lst ys)) s → Rs (.ok (.ret .none)) s) :
    ∀ (m i : Nat) (s : Shared), ys.length - i = m → i ≤ ys.length → Inv X pins σ (upd (upd H0 it (LItO p it i)) q (.lst (ys.take i))) s → codeAny (model X.prog X.w) A1 (.builtin "list.extend.loop" ⟨[.ref q, .ref it, .none], []⟩) Rs s := by
  intro m
  induction m with
  | zero =>
    intro i s hm hi I
    have ei : i = ys.length := by omega
    refine codeAny_builtin PySem.F.entry_extend_loop ?_
    rw [Around.under_plainId PySem.F.plain_extend_loop _]
    show wpAny _ A1.in1 (pyNext (.ref it) >>= _) _ _ s
    have hH : upd (upd H0 it (LItO p it i)) q (.lst (ys.take i)) it = some (LItO p it i) := by rw [upd_ne hiq, upd_same]
    have hP : upd (upd H0 it (LItO p it i)) q (.lst (ys.take i)) p = some (.lst ys) := by rw [upd_ne hpq, upd_ne hpi]; exact hp
    have hit : s.heap.IsListIter it p i := (I.hok it _ hH).1
    obtain ⟨its, rv, pl, hz⟩ := I.list (xs := ys) (.inl (.inl hP))
    refine wpAny_bind (next_list_endX (A := A1.in1) hh hit pl.isList (by rw [List.getElem?_toArray]; exact rv.none_of (by rw [ei]; exact List.getElem?_eq_none (Nat.le_refl _))) fun h' eb ex => ?_)
    refine wpAny_pure (hdone _ ?_)
    have mu : Mut (upd (upd H0 it (LItO p it i)) q (.lst (ys.take i)) it) := by rw [hH]; exact True.intro
    have I2 := I.write (x := it) (e := it) (t' := s.toks) mu (.inl rfl) (fun b o nb z => eb b o nb z) ex (endO_ok (H := upd (upd (upd H0 it (LItO p it i)) q (.lst (ys.take i))) it (EndO it)) ex)
    rw [upd_in hiq, ei, List.take_length] at I2
    exact I2
  | succ m ih =>
    intro i s hm hi I
    have hlt : i < ys.length := by omega
    refine codeAny_builtin PySem.F.entry_extend_loop ?_
    rw [Around.under_plainId PySem.F.plain_extend_loop _]
    show wpAny _ A1.in1 (pyNext (.ref it) >>= _) _ _ s
    have hH : upd (upd H0 it (LItO p it i)) q (.lst (ys.take i)) it = some (LItO p it i) := by rw [upd_ne hiq, upd_same]
    have hP : upd (upd H0 it (LItO p it i)) q (.lst (ys.take i)) p = some (.lst ys) := by rw [upd_ne hpq, upd_ne hpi]; exact hp
    have hit : s.heap.IsListIter it p i := (I.hok it _ hH).1
    obtain ⟨its, rv, pl, hz⟩ := I.list (xs := ys) (.inl (.inl hP))
    obtain ⟨u, hu, ru⟩ := rv.get (List.getElem?_eq_getElem hlt)
    refine wpAny_bind (wpAny_pyNext_list_item hit pl.isList (x := u) (by rw [List.getElem?_toArray]; exact hu) fun h' e' sb => ?_)
    have mu : Mut (upd (upd H0 it (LItO p it i)) q (.lst (ys.take i)) it) := by rw [hH]; exact True.intro
    have ex : ∃ o, h'.get? it = some o := let ⟨o, ho, _⟩ := e'; ⟨o, ho⟩
    have I2 := I.write (x := it) (e := it) (t' := s.toks) mu (.inl rfl) (fun b o nb z => (sb.2 b nb).trans z) ex (litO_ok (H := upd (upd (upd H0 it (LItO p it i)) q (.lst (ys.take i))) it (LItO p it (i + 1))) e')
    rw [upd_in hiq] at I2
    have hq2 : upd (upd H0 it (LItO p it (i + 1))) q (.lst (ys.take i)) q = some (.lst (ys.take i)) := upd_same
    obtain ⟨z, its2, k, r2, hl2, e2⟩ := I2.lstM hq2
    show wpAny _ A1.in1 (updateSeq q (·.push u) >>= _) _ _ _
    have lt : (ys.take i).length = i := by rw [List.length_take]; omega
    refine wpAny_bind (wpAny_updateSeq e2 rfl (wpAny_pure ⟨plainId_quiet PySem.F.plain_extend_loop _, ?_⟩) (by rw [List.size_toArray]; omega) (by show (its2.toArray.push u).size ≤ sizeLine + 1; rw [Array.size_push, List.size_toArray]; omega))
    have I3 := I2.lset (f := (·.push u)) (its' := its2 ++ [u]) (ys := ys.take i ++ [ys[i]]) (t' := s.toks) hq2 e2 (by simp) (r2.append (.cons ru .nil)) (by rw [List.length_append, List.length_singleton]; omega)
    rw [upd_upd, List.take_append_getElem hlt] at I3
    exact ih (i + 1) _ (by omega) hlt I3
end
end Fx
namespace Fx
open PySem PySem.Spec PyProof.Rows L2
section
variable {X : Cx} {k : Nat} {C : Addr} {psI psL : List Str} {spI spL : Sp}
/-- list(o) -/
def rListOL (C : Addr) (spI spL : Sp) : List V → Hp → VK → Prop := fun xs H Q => ∃ a, xs = [.ref a] ∧ ∃ dx fs, H a = some (.ins C dx fs) ∧ ∀ q, H q = none → spI [.ref a] (upd H q (.lst [])) (fun v H1 => ∃ it, v = .ref it ∧ ∃ p, H1 it = some (LItO p it 0) ∧ ∃ dx fs, H1 a = some (.ins C dx fs) ∧
  spL [.ref a] H1 (fun v2 H2 => ∃ n, v2 = .int n ∧ 0 ≤ n ∧ n ≤ 1000000 ∧ H2 it = some (LItO p it 0) ∧ H2 q = some (.lst []) ∧ ∃ ys, H2 p = some (.lst ys) ∧ p ≠ q ∧ Q (.ref q) (upd (upd H2 it (EndO it)) q (.lst ys))) E0) E0
theorem list_OL (MI : CalM X.prog X.w X.K X.mg X.base CX0 k C "__iter__" psI spI) (ML : CalM X.prog X.w X.K X.mg X.base CX0 k C "__len__" psL spL) (hc : X.calm = true) (hr : Room (k + 3) X.A) : CallR X (.type "list") (rListOL C spI spL) := by
  intro pins s σ H xs us Q I rv h
  obtain ⟨a, rfl, dx, fs, ha, hq⟩ := h
  obtain ⟨u, rfl, ru⟩ := rv.one
  cases ru
  refine callType_codes (Q₁ := fun obj s₁ => obj = .ref s.heap.objs.size ∧ s₁ = { s with heap := s.heap.push { cls := .type "list", data := .seq #[] } }) PySem.F.called_list (PySem.F.typeCall_list_1 _) PySem.F.entry_list_init
    (code_list_new _ ⟨rfl, rfl⟩) fun obj s₁ h₁ => ?_
  obtain ⟨rfl, rfl⟩ := h₁
  have hS : (s.heap.push { cls := .type "list", data := .seq #[] }).get? s.heap.objs.size = some { cls := .type "list", data := .seq #[] } := Heap.get?_push_size _ rfl
  refine ⟨⟨_, hS, rfl⟩, PySem.F.args_list_init_2 _ _, ?_⟩
  have fr : H s.heap.objs.size = none := I.hok.fresh (Nat.le_refl _)
  have hq := hq _ fr
  have I1 : Inv X pins σ (upd H s.heap.objs.size (.lst [])) { s with heap := s.heap.push { cls := .type "list", data := .seq #[] } } := I.lnew (its := []) (t' := s.toks) .nil (Nat.zero_le _)
  show wpAny _ _ (do let old ← Builtin.List.listItems (.ref s.heap.objs.size); Builtin.List.listUpdate (.ref s.heap.objs.size) (fun _ => #[]); letGo old.toList.reverse; Builtin.List.listExtendWith (.ref s.heap.objs.size) (.ref a) .none) _ _ _
  refine wpAny_bind ?_
  unfold Builtin.List.listItems
  refine wpAny_bind (wpAny_seqItems hS rfl (wpAny_pure ?_))
  show wpAny _ _ (updateSeq s.heap.objs.size (fun _ => #[]) >>= fun _ => letGo (#[] : Array Value).toList.reverse >>= fun _ => Builtin.List.listExtendWith (.ref s.heap.objs.size) (.ref a) .none) _ _ _
  refine wpAny_bind (wpAny_updateSeq hS rfl ?_)
  have I2 := I1.lset (f := fun _ => #[]) (its := []) (its' := []) (ys := []) (t' := s.toks) upd_same hS rfl .nil (Nat.zero_le _)
  rw [upd_upd] at I2
  refine wpAny_bind (wpAny_letGo ?_)
  have ha2 : upd H s.heap.objs.size (.lst []) a = some (.ins C dx fs) := by rw [upd_ne (ne_of_none ha fr)]; exact ha
  generalize s.heap.objs.size = q at *
  have hne : q ≠ a := fun e => by
    rw [e, ha] at fr
    cases fr
  obtain ⟨fi, fdi, mi, bi, Fi⟩ := MI.ex
  obtain ⟨ox, od, J⟩ := inst_at I2 ha2
  obtain ⟨mm, hF⟩ := I2.fr
  have hr1 : Room k X.A.in1.in1 := (Room.in1 (Room.in1 hr)).mono (Nat.le_succ _)
  unfold Builtin.List.listExtendWith
  refine wpAny_bind (J.type.here ?_)
  have h1 : Builtin.List.listSameRef (.ref q) (.ref a) = false := by simp [Builtin.List.listSameRef, hne]
  have h2 : (Value.ref C == Value.type "list") = false := rfl
  have h3 : (Value.ref C == Value.type "tuple") = false := rfl
  simp only [h1, h2, h3, Bool.or_false, Bool.false_eq_true, if_false]
  refine wpAny_bind (PySem.W.owit_iter hF I2.ok.mod.kin J mi.at_ mi.fn ?_)
  refine wpAny_mono (run_fn0 (E' := fun _ _ => False) (A := X.A.in1.in1) (vs := [.ref a]) (us := [.ref a]) rfl Fi hr1 bi I2 (.cons rfl .nil) hq) (fun v s' hv => ?_) fun _ _ z => z.elim
  obtain ⟨z, H1, I3, rz, it, rfl, p, hit, dx1, fs1, ha3, hsp⟩ := hv
  cases rz
  have hit0 : s'.heap.IsListIter it p 0 := (I3.hok it _ hit).1
  unfold PySem.W.OwitIt
  refine wpAny_specialOf (name := Str.ofString "__next__") hit0.typeIs slot_listiter_next.lookup ?_
  refine wpAny_bind (wpAny_holding ?_)
  refine own_hintL (A := X.A.in1.in1) rfl ML ((Room.in1 (Room.in1 hr))) I3 ha3 (R := fun H2 => H2 it = some (LItO p it 0) ∧ H2 q = some (.lst []) ∧ ∃ ys, H2 p = some (.lst ys) ∧ p ≠ q ∧ Q (.ref q) (upd (upd H2 it (EndO it)) q (.lst ys))) hsp (fun room H2 s2 I4 hR => ?_)
  obtain ⟨hi2, hq2, ys, hp2, hpq, hQ⟩ := hR
  have hiq : it ≠ q := ne_of hi2 hq2 (by unfold LItO; intro z; cases z)
  have hpi : p ≠ it := ne_of hp2 hi2 (by unfold LItO; intro z; cases z)
  have hl : ys.length ≤ sizeLine := (I4.hok p _ hp2).1
  have e0 : upd (upd H2 it (LItO p it 0)) q (.lst (ys.take 0)) = H2 := by
    funext c
    unfold upd
    by_cases h1 : c = q
    · rw [if_pos h1, h1]
      exact hq2.symm
    · rw [if_neg h1]
      by_cases h2 : c = it
      · rw [if_pos h2, h2]
        exact hi2.symm
      · rw [if_neg h2]
  have go : ∀ s3, Inv X pins σ H2 s3 → codeAny (model X.prog X.w) X.A.in1 (.builtin "list.extend.loop" ⟨[.ref q, .ref it, .none], []⟩) (wants (fun r s₂ => r = .none ∧ EP X pins σ Q (.ref q) s₂) X.xe) s3 := fun s3 I5 =>
    lst_loop (A1 := X.A.in1) (H0 := H2) (show X.A.in1.handled = none from I5.ok.hd hc) hiq hpi hpq hp2 hl (fun s4 I6 => ⟨rfl, .ref q, _, I6, rfl, hQ⟩) ys.length 0 s3 (by omega) (Nat.zero_le _) (by rw [e0]; exact I5)
  obtain ⟨z, its, kk, r3, hl3, e3⟩ := I4.lstM hq2
  cases r3
  refine wpAny_ite_split (fun _ => ?_) (fun _ => wpAny_pure ⟨plainId_quiet PySem.F.plain_extend_loop _, go _ I4⟩)
  refine wpAny_bind (wpAny_rule ?_)
  refine wpAny_bind ?_
  show wpAny _ _ (updateSeq q (·.push .none) >>= fun _ => updateSeq q (·.pop)) _ _ _
  refine wpAny_bind (wpAny_updateSeq e3 rfl ?_)
  have J2 := I4.lset (f := (·.push Value.none)) (its' := [Value.none]) (ys := [.non]) (t' := s2.toks) hq2 e3 (by simp) (.cons rfl .nil) (by rw [List.length_singleton, sizeLine_eq]; decide)
  obtain ⟨z4, its4, k4, r4, hl4, e4⟩ := J2.lstM upd_same
  obtain ⟨u4, rfl, ru4⟩ := r4.one
  refine wpAny_updateSeq e4 rfl ?_ (by show 1 ≤ sizeLine; rw [sizeLine_eq]; decide) (by show 0 ≤ sizeLine + 1; exact Nat.zero_le _)
  refine wpAny_pure ⟨plainId_quiet PySem.F.plain_extend_loop _, go _ ?_⟩
  have J3 := J2.lset (f := (·.pop)) (its := [u4]) (its' := []) (ys := []) (t' := s2.toks) upd_same e4 (by rfl) .nil (Nat.zero_le _)
  rw [upd_upd] at J3
  have hH : upd H2 q (.lst []) = H2 := by
    funext b
    by_cases hb : b = q
    · rw [hb, upd_same, hq2]
    · rw [upd_ne hb]
  rw [hH] at J3
  exact J3
end
end Fx
namespace Fx
open PySem PySem.Spec PyProof.Rows L2
section
variable {X : Cx} {CX : CXT} {k : Nat} {C : Addr} {ps : List Str} {sp : Sp} {E : XK}
/-- o[i] = v by the own __setitem__ -/
def rSetO (C : Addr) (sp : Sp) (E : XK) : TSet := fun o i v H Q => ∃ a dx fs, o = .ref a ∧ H a = some (.ins C dx fs) ∧ sp [.ref a, i, v] H (fun _ H' => Q H') E
theorem set_O (M : CalM X.prog X.w X.K X.mg X.base CX k C "__setitem__" ps sp) (hq : PySem.W.noSeq X.K C = true) (hr : Room k X.A) (hx : Passes CX X E) : PSet X (rSetO C sp E) := by
  intro pins s σ H o i v ov iv u Q I ro ri rv h
  obtain ⟨f, fd, m, b, F⟩ := M.ex
  obtain ⟨a, dx, fs, rfl, hA, hsp⟩ := h
  cases ro
  obtain ⟨ox, od, J⟩ := inst_at I hA
  unfold setItem sequenceKey
  refine wpAny_holding (wpAny_bind (wpAny_bind (J.type.here ?_)))
  refine wpAny_bind ((PySem.W.anyM_none I.kIn hq).here ?_)
  rw [if_pos (show (!false) = true from rfl)]
  refine wpAny_pure (wpAny_bind (PySem.W.special_fn I.kIn J m.at_ (beq_iff_eq.mp m.fn) ?_))
  refine wpAny_mono (run_fnA (vs := [.ref a, i, v]) (us := [.ref a, iv, u]) rfl F hr b hx I (.cons rfl (.cons ri (.cons rv .nil))) hsp) (fun w s' hv => ?_) fun _ _ z => z
  obtain ⟨z, H', I', _, q⟩ := hv
  exact wpAny_pure ⟨H', I', q⟩
end
/-! ### a staticmethod, called by its class -/
structure CSta (K : PySem.W.Frag) (C : Addr) (mc : Value) (m : Str) (p g : Addr) : Prop where
  at_ : PySem.W.findCls K (.ref C) mc m = some (.get (.builtin "staticmethod.__get__") (.ref p) .none (.ref C))
  rc : ∃ rest, PySem.W.recIn K p "staticmethod" = some (.ref g :: rest)
  kp : PySem.W.keepIn K (.ref g) = true
section
variable {X : Cx} {CX : CXT} {k : Nat} {C p g : Addr} {mc : Value} {m : Str} {fd : FuncData} {ps : List Str} {sp : Sp} {E : XK} {o e : Expr} {es : List Expr} {ta : TE} {t : TA} {pos apos : Pos}
/-- e.m(..), e the class at C, m a staticmethod -/
def tSMeth (C : Addr) (sp : Sp) (E : XK) (ta : TE) (t : TA) : TE := fun σ H Q => ta σ H fun x H1 => x = .ref C ∧ t σ H1 fun vs H2 => sp vs H2 Q E
theorem pe_smeth {pl : Sem Bool} (he : PE X o ta) (r : ClX.CRead X.K C mc) (c : CSta X.K C mc m p g) (F : FnOk X.prog X.w X.K X.mg X.base CX k g fd ps sp) (hr : Room k X.A) (hb : Binds X.K fd ps []) (hx : Passes CX X E) (ha : PA X (e :: es) t)
    (hst : starEach (e :: es) X.env = (false, eval e X.env) :: starEach es X.env := by rfl) (hpl : (backTo pos (starEach es X.env)).any (·.1) = false := by rfl)
    (ht : eval (.Call (.Attribute o m apos) (e :: es) [] pos) X.env = (do
      let ov ← eval o X.env
      standAt apos.atName
      let (f, first) ← holding [ov] (getMethod ov m pl)
      callWith pos f first (backTo pos (starEach (e :: es) X.env)) (backToKw pos (keywordEach [] X.env))) := by rfl) :
    PE X (.Call (.Attribute o m apos) (e :: es) [] pos) (tSMeth C sp E ta t) := by
  refine ⟨fun pins s σ H Q I h => ?_⟩
  refine PySem.W.methodCall_KW (pl := pl) (thn (he.run pins s σ H _ I h) fun u s1 ⟨x, H1, I1, rx, ex, q⟩ => ?_) ht
  subst ex
  obtain rfl : u = Value.ref C := rx
  obtain ⟨rest, hp⟩ := c.rc
  refine PySem.W.method_cls I1.kIn r.ga ?_
  refine PySem.W.cls_bind I1.kIn r.rd c.at_ ?_
  refine wpAny_call (PySem.W.sm_get (s := { s1 with toks := s1.toks + 1 }) I1.kIn hp (PySem.W.handed_on rfl ?_))
  refine PySem.W.callWith_K (first := []) (h₀ := X.base) I1.ok.mod.kin c.kp (thn (ha.run pos pins _ σ H1 _ (I1.tok _) q) fun us s2 ⟨vs, H2, I2, rv, q2⟩ => ⟨I2.kIn, ?_⟩) hst hpl
  exact run_fnA rfl F hr hb hx I2 rv q2
end
/-! ### several except clauses, each with the name n -/
def wManyAs (K : PySem.W.Frag) (i : Nat) (Wout : WX) (D : Ends) : List (Value × (Addr → Value → Option Addr → TS)) → WX
  | [] => Wout
  | (c, ts) :: r => fun cls d σ H => ∃ b, PySem.W.exmOne K cls c = some b ∧ (b = true → ∀ a, H a = none → ts a cls d { nx := fun σ' H' => D.nx (σ'.set i none) H', rt := D.rt, bk := fun σ' H' => D.bk (σ'.set i none) H', ct := fun σ' H' => D.ct (σ'.set i none) H' } (σ.set i (some (.ref a))) H) ∧ (b = false → wManyAs K i Wout D r cls d σ H)
inductive HdsAs (X : Cx) (n : Str) : List ExceptHandler → List (Value × (Addr → Value → Option Addr → TS)) → Prop
  | nil : HdsAs X n [] []
  | cons {x : Str} {c : Value} {ts : Addr → Value → Option Addr → TS} {b₀ : Stmt} {suite : List Stmt} {np pos' : Pos} {hds : List ExceptHandler} {l : List (Value × (Addr → Value → Option Addr → TS))} (hc : Names X x c)
      (hsu : ∀ (a : Addr) (oe : Obj) (cls : Value) (d : Option Addr) (pn : List (Addr × Obj)), Zc cls d oe → (∃ vs, oe.data = .fields vs) → PSs (X.suite a ((a, oe) :: pn)) (b₀ :: suite) (ts a cls d)) (r : HdsAs X n hds l) :
      HdsAs X n (.ExceptHandler (some (.Name x np)) (some n) (b₀ :: suite) pos' :: hds) ((c, ts) :: l)
section
variable {X : Cx} {n : Str} {i : Nat} {pins : List (Addr × Obj)} {σ : L2.St} {H : Hp} {s : Shared} {a : Addr} {cls : Value} {d : Option Addr} {B : Heap}
/-- an error at a is caught: the state in which the clauses are asked -/
structure Caught (X : Cx) (pins : List (Addr × Obj)) (σ : L2.St) (H : Hp) (a : Addr) (cls : Value) (d : Option Addr) (B : Heap) (s : Shared) : Prop where
  inv : Inv X pins σ H s
  fly : HandSPX.FlyingZ B (X.env :: X.outer) a (Zc cls d) s.heap
  na : H a = none
  nL : a ≠ X.env.locals
  nF : a ∉ X.fs
  on : ∀ h, HandSPX.FlyingZ B (X.env :: X.outer) a (Zc cls d) h → s.heap.UpToSlots h → Inv X pins σ H { s with heap := h }
/-- the clause's class is asked by its name -/
theorem Caught.test {oe : Obj} (C : Caught X pins σ H a cls d B s) (he : s.heap.get? a = some oe) {vs : Array Value} (hd : oe.data = .fields vs) {x : Str} {c : Value} {np : Pos} (hc : Names X x c) {Q : Value → Shared → Prop} {E : Value → Shared → Prop} (q : Q c s) :
    wpAny (model X.prog X.w) (X.A.mark (some (.ref a))) (eval (.Name x np) X.env) Q E s := by
  have S := C.inv.suite he hd C.na C.nL C.nF
  obtain ⟨g, nd, k⟩ := hc
  rcases k with k | ⟨k, k2, k3⟩
  · exact ld_glob (X := X.suite a ((a, oe) :: (X.pn ++ pins))) S g k q nd
  · exact ld_blt (X := X.suite a ((a, oe) :: (X.pn ++ pins))) S g k k2 q k3 nd
/-- one clause -/
theorem Caught.clause (C : Caught X pins σ H a cls d B s) (hfr : X.A.frames = some (X.env :: X.outer)) (hN : X.N.Nodup) (hi : X.N[i]? = some n) (hln : X.env.kindOf n = some .local) {x : Str} {c : Value} {ts : Addr → Value → Option Addr → TS} {b₀ : Stmt} {suite : List Stmt} {np pos : Pos} {hds : List ExceptHandler} {D : Ends} {b : Bool}
    (hc : Names X x c) (hsu : ∀ (a : Addr) (oe : Obj) (cls : Value) (d : Option Addr) (pn : List (Addr × Obj)), Zc cls d oe → (∃ vs, oe.data = .fields vs) → PSs (X.suite a ((a, oe) :: pn)) (b₀ :: suite) (ts a cls d))
    (hb : PySem.W.exmOne X.K cls c = some b)
    (yes : b = true → ts a cls d { nx := fun σ' H' => D.nx (σ'.set i none) H', rt := D.rt, bk := fun σ' H' => D.bk (σ'.set i none) H', ct := fun σ' H' => D.ct (σ'.set i none) H' } (σ.set i (some (.ref a))) H)
    (no : b = false → wpAny (model X.prog X.w) X.A (handleBy (.ref a) X.env hds) (SP X pins D) X.xe s) :
    wpAny (model X.prog X.w) X.A (handleBy (.ref a) X.env (.ExceptHandler (some (.Name x np)) (some n) (b₀ :: suite) pos :: hds)) (SP X pins D) X.xe s := by
  obtain ⟨oe, vs, he, hz, hd⟩ := C.fly.there
  have mt := PySem.W.exm_one (M := model X.prog X.w) C.inv.kIn (fun A Q E s' k q => wpAny_typeOf_ref (k _ _ he) (by rw [hz.1]; exact q)) hb
  refine wpAny_handleBy_cons (codeAny_handlers_test (C.test he hd hc (mt.here ?_))) nofun
  cases b with
  | false => exact no rfl
  | true =>
    have t := yes rfl
    clear yes no
    refine codeAny_handlers_suite_as (HandSPX.lands_againZ C.fly fun h fl up => ?_)
    obtain ⟨o4, v4, e4, z4, d4⟩ := fl.there
    have S := (C.on h fl up).suite e4 d4 C.na C.nL C.nF
    refine store_ok (X := X.suite a ((a, o4) :: (X.pn ++ pins))) (v := .ref a) S hN hi (.inl hln) rfl (fun s5 S5 => ?_) (.inr hln)
    refine wpAny_mono ((hsu a o4 cls d (X.pn ++ pins) z4 ⟨v4, d4⟩).run [] s5 _ H _ S5 t) (fun f s6 r => ?_) fun _ _ z => z.elim
    have away : ∀ {σ6 : L2.St} {H6 : Hp} {Q : Shared → Prop}, Inv (X.suite a ((a, o4) :: (X.pn ++ pins))) [] σ6 H6 s6 → (∀ s7, Inv X pins (σ6.set i none) H6 s7 → Q s7) → wpAny (model X.prog X.w) X.A (do bindName X.env n .none; unbindBehindTheSuite X.env n pos) (fun _ s7 => Q s7) X.xe s6 :=
      fun J q => gone_ok (J.unsuite C.inv.ok) hN hi hln q
    cases f with
    | ret u =>
      obtain ⟨y, σ6, H6, J, ry, q⟩ := r
      exact away J fun _ K => ⟨y, _, H6, K, ry, q⟩
    | _ =>
      obtain ⟨σ6, H6, J, q⟩ := r
      exact away J fun _ K => ⟨_, H6, K, q⟩
/-- no clause has taken it: it goes on -/
theorem Caught.out (C : Caught X pins σ H a cls d B s) (hf : X.env.frame = some X.env.locals) {D : Ends} (h : ∀ h', HandSPX.HeldZ B (X.env :: X.outer) a (Zc cls d) X.env.locals h' → s.heap.UpToSlots h' → X.xe (.ref a) { s with heap := h' }) : wpAny (model X.prog X.w) X.A (handleBy (.ref a) X.env []) (SP X pins D) X.xe s := by
  obtain ⟨_, _, _, oe, vs, T, oT, ts, he, hz, hd, h1, _⟩ := id C.fly
  refine wpAny_handleBy_nil ?_
  unfold PySem.passOn
  refine wpAny_bind (wpAny_field he hd h1 ?_)
  rw [if_neg (show ¬ ((Value.ref T == Value.none) = true) by simp)]
  have go : wpAny (model X.prog X.w) X.A (setFlight (.ref a) X.env.frame) (fun _ s4 => wpAny (model X.prog X.w) X.A (throw (.ref a) : Sem Flow) (SP X pins D) X.xe s4) X.xe s := by
    rw [hf]
    exact HandSPX.setFlight_upZ C.fly fun h' hh up => wpAny_throw (h h' hh up)
  first
    | exact wpAny_bind (wpAny_pure (wpAny_bind go))
    | exact wpAny_bind go
end
section
variable {X : Cx} {n : Str} {i : Nat} {body : List Stmt} {h₀ : ExceptHandler} {hds : List ExceptHandler} {l : List (Value × (Addr → Value → Option Addr → TS))} {pos : Pos} {tb : WX → TS} {Wout : WX}
theorem HdsAs.run {X : Cx} {n : Str} {i : Nat} {pins : List (Addr × Obj)} {σ : L2.St} {H : Hp} {s : Shared} {a : Addr} {cls : Value} {d : Option Addr} {B : Heap} {D : Ends} {Wout : WX} (C : Caught X pins σ H a cls d B s) (hfr : X.A.frames = some (X.env :: X.outer)) (hN : X.N.Nodup) (hi : X.N[i]? = some n) (hln : X.env.kindOf n = some .local)
    (out : Wout cls d σ H → wpAny (model X.prog X.w) X.A (handleBy (.ref a) X.env []) (SP X pins D) X.xe s) {hds : List ExceptHandler} {l : List (Value × (Addr → Value → Option Addr → TS))} (hh : HdsAs X n hds l) :
    wManyAs X.K i Wout D l cls d σ H → wpAny (model X.prog X.w) X.A (handleBy (.ref a) X.env hds) (SP X pins D) X.xe s := by
  induction hh with
  | nil => exact out
  | cons hc hsu _ ih => exact fun ⟨b, hb, yes, no⟩ => C.clause hfr hN hi hln hc hsu hb (fun e => yes e a C.na) fun e => ih (no e)
theorem ps_try_manyAs (hs : X.stack = X.env :: X.outer) (hf : X.env.frame = some X.env.locals) (hN : X.N.Nodup) (hi : X.N[i]? = some n) (hln : X.env.kindOf n = some .local) (tk : Takes X Wout)
    (hb : ∀ (W : WX) (pn : List (Addr × Obj)) (xe : Value → Shared → Prop), Takes (X.tr pn xe) W → PassesOwn (model X.prog X.w) X.A X.env xe → PSs (X.tr pn xe) body (tb W))
    (hh : HdsAs X n (h₀ :: hds) l) : PS X (.Try body (h₀ :: hds) [] [] pos) (fun D σ H => tb (wManyAs X.K i Wout D l) D σ H) := by
  refine ⟨fun pins s σ H D I h => wpAny_Try_except ?_⟩
  have ok := I.ok
  have hfr : X.A.frames = some (X.env :: X.outer) := by rw [ok.frames, hs]
  have caught : Takes (X.tr (X.pn ++ pins) (fun e s₁ => wpAny (model X.prog X.w) X.A (noteFrame e X.env) (fun _ s₂ => wpAny (model X.prog X.w) X.A (setFlight e none) (fun _ s₃ => wpAny (model X.prog X.w) X.A (handleBy e X.env (h₀ :: hds)) (SP X pins D) X.xe s₃) X.xe s₂) X.xe s₁)) (wManyAs X.K i Wout D l) := by
    rintro _ s1 ⟨a, B, sI, p1, σ1, H1, cls, d, rfl, J0, nb, up, sky, na, os, ag, w⟩
    have J := J0.ofTry ok
    rw [show X.stack = _ from hs] at sky
    refine Sky.land Zc.steady hfr hf sky fun h2 fl up2 => ?_
    obtain ⟨oe, vs, he, _, hd⟩ := fl.there
    have nfr : a ∉ frs (X.env :: X.outer) := fun m => by
      obtain ⟨_, o, e, nf⟩ := fl.2.2.1.mem m
      rw [he] at e
      cases e
      exact nf _ hd
    have C : Caught X pins σ1 H1 a cls d B { s1 with heap := h2 } := ⟨J.landed nb fl.1 (up.trans up2) os ag, fl, na,
      fun e => nfr (List.mem_filterMap.mpr ⟨X.env, List.mem_cons_self, by rw [hf, e]⟩),
      fun m => by
        obtain ⟨v, hv, q⟩ := List.mem_filterMap.mp m
        exact nfr (List.mem_filterMap.mpr ⟨v, List.mem_cons_of_mem _ hv, q⟩),
      fun h3 fl3 up3 => J.landed nb fl3.1 ((up.trans up2).trans up3) os ag⟩
    exact hh.run C hfr hN hi hln (fun wo => C.out hf fun h3 hd3 up3 => tk _ _ ⟨a, B, sI, pins, σ1, H1, cls, d, rfl, J, nb, (up.trans up2).trans up3, .inr (.inr (by rw [hs]; exact hd3)), na, os, ag, wo⟩) w
  refine wpAny_mono ((hb _ _ _ caught PassesOwn.looking).run [] s σ H D (I.toTry _) h) (fun f s1 r => ?_) fun _ _ z => z
  cases f with
  | next =>
    obtain ⟨σ1, H1, J, q⟩ := r
    exact wpAny_execs_nil ⟨σ1, H1, J.ofTry ok, q⟩
  | ret u =>
    obtain ⟨y, σ1, H1, J, ry, q⟩ := r
    exact ⟨y, σ1, H1, J.ofTry ok, ry, q⟩
  | _ =>
    obtain ⟨σ1, H1, J, q⟩ := r
    exact ⟨σ1, H1, J.ofTry ok, q⟩
end
end Fx
/-! staticmethods among the head's facts -/
namespace FxH
open PySem PySem.Spec PyProof.Rows L2 He
structure StD where
  x : Str
  m : Str
  qual : Str
  st : Stmt
/-- the def within the record -/
def stA (K : PySem.W.Frag) (x m : Str) : Addr := match PySem.W.recIn K (ma K (ga K x) m) "staticmethod" with
  | some (.ref f :: _) => f
  | _ => 0
def fnS (K : PySem.W.Frag) (d : StD) : FnW := match K.lookup (stA K d.x d.m) with
  | some ⟨_, _, .func fd, _⟩ => some (fd.name, fd.qualname, fd.params, fd.body, fd.scope, fd.globals, fd.closure, fd.builtins)
  | _ => none
def StD.val (d : StD) : FnW := some (d.m, d.qual, defArgs d.st, .stmts (defBody d.st), defScope d.st, mainGlobals, [], builtinsNs)
def StD.ok (K : PySem.W.Frag) (d : StD) : Bool := PySem.W.keepIn K (.ref (stA K d.x d.m)) && ((match K.lookup (stA K d.x d.m) with
  | some ⟨_, _, .func fd, _⟩ => PySem.W.codeIn K fd.code d.qual && (dflB K fd.defaults [] && kwdB K fd.kwdefaults [])
  | _ => false) && ((match PySem.W.findCls K (.ref (ga K d.x)) (.type "type") d.m with
    | some (.get (.builtin g) (.ref p) .none (.ref D)) => decide (g = "staticmethod.__get__") && (decide (p = ma K (ga K d.x) d.m) && decide (D = ga K d.x))
    | _ => false) && ((match PySem.W.recIn K (ma K (ga K d.x) d.m) "staticmethod" with
    | some (.ref _ :: _) => true
    | _ => false) && (PySem.W.readsIn K (ga K d.x) (.type "type") && eqO (PySem.W.specialIn K (.ref (ga K d.x)) "__getattribute__") (some (some (.builtin "type.__getattribute__")))))))
theorem StD.funD {K : PySem.W.Frag} {d : StD} (e : fnS K d = d.val) (c : d.ok K = true) : ∃ fd, FunD K d.m d.qual (defArgs d.st) (defBody d.st) (defScope d.st) [] [] (stA K d.x d.m) fd := by
  obtain ⟨kp, c⟩ := ba c
  obtain ⟨c2, _⟩ := ba c
  unfold fnS at e
  cases q : K.lookup (stA K d.x d.m) with
  | none =>
    rw [q] at c2
    cases c2
  | some o =>
    obtain ⟨oc, od, dt, osl⟩ := o
    rw [q] at c2 e
    cases dt with
    | func fd =>
      obtain ⟨n1, n2, n3, n4, n5, n6, n7, n8, n9, n10, n11, n12, n13, n14, n15⟩ := fd
      have e2 : (some (n1, n2, n3, n4, n5, n6, n7, n15) : FnW) = some (d.m, d.qual, defArgs d.st, .stmts (defBody d.st), defScope d.st, mainGlobals, [], builtinsNs) := e
      simp only [Option.some.injEq, Prod.mk.injEq] at e2
      obtain ⟨h1, h2, h3, h4, h5, h6, h7, h8⟩ := e2
      have c3 : (PySem.W.codeIn K n13 d.qual && (dflB K n8 [] && kwdB K n9 [])) = true := c2
      obtain ⟨k1, k2⟩ := ba c3
      obtain ⟨k3, k4⟩ := ba k2
      refine ⟨_, ⟨oc, od, n8, n9, n10, n11, n12, n13, n14, osl, ?_, q, k1, dflB_ok k3, kwdB_ok k4⟩, kp⟩
      rw [h1, h2, h3, h4, h5, h6, h7, h8]
    | _ => cases c2
theorem StD.sta {K : PySem.W.Frag} {d : StD} (c : d.ok K = true) : Fx.CSta K (ga K d.x) (.type "type") d.m (ma K (ga K d.x) d.m) (stA K d.x d.m) ∧ ClX.CRead K (ga K d.x) (.type "type") := by
  obtain ⟨kp, c⟩ := ba c
  obtain ⟨_, c⟩ := ba c
  obtain ⟨c3, c⟩ := ba c
  obtain ⟨c4, c⟩ := ba c
  obtain ⟨c5, c6⟩ := ba c
  refine ⟨⟨?_, ?_, kp⟩, ⟨c5, eqO_ok c6⟩⟩
  · split at c3
    · rename_i g p D e
      obtain ⟨k1, k⟩ := ba c3
      obtain ⟨k2, k3⟩ := ba k
      rw [e, of_decide_eq_true k1, of_decide_eq_true k2, of_decide_eq_true k3]
    · cases c3
  · split at c4
    · rename_i f r e
      have es : stA K d.x d.m = f := by unfold stA; rw [e]
      exact ⟨r, by rw [es, e]⟩
    · cases c4
/-! ### the Hook -/
abbrev AlS : Type := AlX × (Bool × List FnW)
def obsS (file : Str) (fa : List Fct) (fn : List DefD) (fi : List InD) (fs : List StD) (K : PySem.W.Frag) : AlS := (obsX file fa fn fi K, (fs.all fun d => d.ok K), fs.map (fun d => fnS K d))
def valS (fn : List DefD) (fi : List InD) (fs : List StD) : AlS := (valX fn fi, true, fs.map StD.val)
def SaysS (file : Str) (fa : List Fct) (fn : List DefD) (fi : List InD) (fs : List StD) (K : PySem.W.Frag) : Prop := obsS file fa fn fi fs K = valS fn fi fs
def obsSG (n : Nat) (file : Str) (fa : List Fct) (fn : List DefD) (fi : List InD) (fs : List StD) (g : Addr → Option Obj) : AlS := obsS file fa fn fi fs (frG g (asR g n))
def hookS (n : Nat) (file : Str) (fa : List Fct) (fn : List DefD) (fi : List InD) (fs : List StD) : PySem.W.Hook where
  α := AlS
  obs := fun s => obsSG n file fa fn fi fs s.heap.get?
  val := fun _ => valS fn fi fs
  says := fun _ h => ∃ K : PySem.W.Frag, K.In h ∧ SaysS file fa fn fi fs K
  of := fun _ _ e => ⟨_, frG_in, e⟩
  keeps := fun _ _ _ ⟨K, hK, c⟩ k => ⟨K, PySem.W.Frag.In.keeps hK k, c⟩
theorem obsSG_eq {n : Nat} {file : Str} {fa : List Fct} {fn : List DefD} {fi : List InD} {fs : List StD} {g : Addr → Option Obj} {s : Shared} (h : ∀ a, g a = s.heap.get? a) : obsSG n file fa fn fi fs g = (hookS n file fa fn fi fs).obs s := by
  have e : g = s.heap.get? := funext h
  rw [e] <;> rfl
section
variable {file : Str} {fa : List Fct} {fn : List DefD} {fi : List InD} {fs : List StD} {K : PySem.W.Frag}
theorem SaysS.x (c : SaysS file fa fn fi fs K) : SaysX file fa fn fi K := congrArg (fun z : AlS => z.1) c
theorem SaysS.st (c : SaysS file fa fn fi fs K) (i : Nat) {d : StD} (h : fs[i]? = some d := by rfl) : fnS K d = d.val ∧ d.ok K = true := by
  have c2 : (fs.all fun d => d.ok K) = true := congrArg (fun z : AlS => z.2.1) c
  have e : fs.map (fun d => fnS K d) = fs.map StD.val := congrArg (fun z : AlS => z.2.2) c
  have e2 : (fs.map fun d => fnS K d)[i]? = (fs.map StD.val)[i]? := by rw [e]
  rw [List.getElem?_map, List.getElem?_map, h] at e2
  exact ⟨Option.some.inj e2, List.all_eq_true.mp c2 d (List.mem_of_getElem? h)⟩
end
end FxH
namespace Fx
open PySem PySem.Spec PyProof.Rows L2
/-- a staticmethod that keeps its promise -/
structure CalS (P : Program) (w : World) (K : PySem.W.Frag) (mg : Str → Option Value) (base : Heap) (CX : CXT) (k : Nat) (C : Addr) (m : Str) (ps : List Str) (sp : Sp) : Prop where
  ex : ∃ p f fd, CSta K C (.type "type") m p f ∧ ClX.CRead K C (.type "type") ∧ Binds K fd ps [] ∧ FnOk P w K mg base CX k f fd ps sp
end Fx
/-! sorted of a tuple of ints (or of a list) -/
namespace Fx
open PySem PySem.Spec PyProof.Rows L2
section
variable {prog : Program} {w : World} {A : Around} {s : Shared} {E : Value → Shared → Prop}
theorem collect_tuple {l : Addr} {vs : List Value} {Q : List Value → Shared → Prop} (hl : s.heap.IsTuple l vs.toArray)
    (h : Q vs { s with heap := (s.heap.push (seqObj "list" #[] 0)).update s.heap.objs.size (Obj.mapSeq (· ++ vs.toArray)) }) (hsz : vs.length ≤ sizeLine) :
    wpAny (model prog w) A (collect (.ref l)) Q E s := by
  obtain ⟨o, ho, hc, n, hd⟩ := id hl
  unfold collect
  refine wpAny_bind (wpAny_runValue (codeAny_builtin F.entry_proto_collect ?_))
  show wpAny _ _ (do again (.builtin "list.__iadd__" ⟨[← newList [], .ref l], []⟩)) _ _ s
  refine wpAny_bind (wpAny_newList (wpAny_pure ⟨Code.quiet_builtin _ (by decide +kernel), codeAny_builtin F.entry_list_iadd ?_⟩))
  show wpAny _ _ (Builtin.List.listExtendWith (.ref s.heap.objs.size) (.ref l) (.ref s.heap.objs.size)) _ _ { s with heap := s.heap.push (seqObj "list" #[] 0) }
  unfold Builtin.List.listExtendWith
  have ho' : (s.heap.push (seqObj "list" #[] 0)).get? l = some o := Heap.get?_push_of_some _ ho
  refine wpAny_bind (wpAny_typeOf (T := "tuple") ⟨o, ho', hc⟩ ?_)
  have ht : (Value.type "tuple" == Value.type "tuple") = true := by rfl
  rw [if_pos (by rw [ht]; simp)]
  refine wpAny_bind (listItems_at ho' hd ?_)
  refine wpAny_bind (listItems_at (xs := #[]) (n := 0) (Heap.get?_push_size _ rfl) rfl ?_)
  rw [if_neg (by simp)]
  refine wpAny_bind (listUpdate_at (xs := #[]) (n := 0) (Heap.get?_push_size _ rfl) rfl ?_ (Nat.zero_le _) (by show (#[] ++ vs.toArray).size ≤ sizeLine + 1; simp only [Array.size_append, List.size_toArray, List.length_nil]; omega))
  refine wpAny_pure ?_
  show wpAny (model prog w) A (do
      let o ← load s.heap.objs.size
      match o.data with
      | .seq xs _ => pure xs.toList
      | _ => unsupported "internal:collect") Q E { s with heap := (s.heap.push (seqObj "list" #[] 0)).update s.heap.objs.size (Obj.mapSeq (· ++ vs.toArray)) }
  refine wpAny_bind (wpAny_load (get?_update_seq (Heap.get?_push_size _ rfl) _) ?_)
  show wpAny _ _ (pure ((#[] : Array Value) ++ vs.toArray).toList) Q E _
  rw [show ((#[] : Array Value) ++ vs.toArray).toList = vs by simp]
  exact wpAny_pure h
open SrtO in
theorem sorted_ordT {l : Addr} {vs : List Value} {ltv : Value → Value → Bool} {Q : Value → Shared → Prop} (O : Swo ltv) (hl : s.heap.IsTuple l vs.toArray) (hz : vs.length ≤ sizeLine)
    (hS : 2 ≤ vs.length → ∀ (h₁ : Heap) (a : Addr), h₁.get? a = some (seqObj "list" vs.toArray 0) → (∀ b o, s.heap.get? b = some o → b ≠ a ∧ h₁.get? b = some o) → SortableO prog w A.in1.in1 { s with heap := h₁ } a vs ltv)
    (h : ∀ out : List Value, Srtd ltv out → Stb ltv out vs → Q (.ref (s.heap.objs.size + 1)) { s with heap := sortedAll s.heap vs out.toArray }) :
    wpAny (model prog w) A (call (.builtin "sorted") [.ref l]) Q E s := by
  refine Calls.call_function_entry kind_sorted plain_sorted entry_sorted (args_sorted1 _) ?_
  unfold Builtin.«sorted»
  refine wpAny_bind (m := checkCount "sorted" 1 1 _) (wpAny_pure ?_)
  refine wpAny_bind (collect_tuple hl ?_ hz)
  refine wpAny_bind (wpAny_newList ?_ hz)
  have hsz : ((s.heap.push (seqObj "list" #[] 0)).update s.heap.objs.size (Obj.mapSeq (· ++ vs.toArray))).objs.size = s.heap.objs.size + 1 := by
    rw [Heap.size_update, size_push']
  have hoL : (((s.heap.push (seqObj "list" #[] 0)).update s.heap.objs.size (Obj.mapSeq (· ++ vs.toArray))).push (seqObj "list" vs.toArray 0)).get? (s.heap.objs.size + 1) = some (seqObj "list" vs.toArray 0) := by
    rw [← hsz]; exact Heap.get?_push_size _ rfl
  have keep : ∀ b o, s.heap.get? b = some o → b ≠ s.heap.objs.size + 1 ∧ (((s.heap.push (seqObj "list" #[] 0)).update s.heap.objs.size (Obj.mapSeq (· ++ vs.toArray))).push (seqObj "list" vs.toArray 0)).get? b = some o := fun b o q => by
    have hlt : b < s.heap.objs.size := Heap.lt_size q
    refine ⟨Nat.ne_of_lt (Nat.lt_succ_of_lt hlt), Heap.get?_push_of_some _ ?_⟩
    rw [Heap.get?_update_ne _ _ _ _ (Nat.ne_of_lt hlt)]
    exact Heap.get?_push_of_some _ q
  show wpAny _ _ _ _ _ { s with heap := ((s.heap.push (seqObj "list" #[] 0)).update s.heap.objs.size (Obj.mapSeq (· ++ vs.toArray))).push (seqObj "list" vs.toArray 0) }
  rw [hsz]
  refine wpAny_bind (wpAny_holding (wpAny_call_entry slot_list_sort ⟨_, hoL, rfl⟩ entry_list_sort (list_sort_ord O hoL hz (fun h2 => hS h2 _ _ hoL keep) fun out hs hb => ⟨_, rfl, ?_⟩) (args_list_sort _)))
  exact wpAny_pure ⟨_, rfl, h out hs hb⟩
end
/-- sorted(xs) of ints, xs a list or a tuple -/
def rSrtQ : List V → Hp → VK → Prop := fun vs H Q => ∃ (a : Addr) (ns : List Int), vs = [V.ref a] ∧ Sq H a (ns.map V.int) ∧
  ∀ (ns' : List Int) (p : Addr), ns'.Perm ns → ns'.Pairwise (· ≤ ·) → H p = none → Q (.ref p) (upd H p (.lst (ns'.map V.int)))
theorem srt_Q {X : Cx} : CallR X (.builtin "sorted") rSrtQ := by
  intro pins s σ H vs us Q I r h
  obtain ⟨a, ns, rfl, hs, q⟩ := h
  rcases hs with hs | hs
  · exact cr_sortedI pins s σ H _ us Q I r ⟨a, ns, rfl, .inl (.inl hs), q⟩
  obtain ⟨its, rv, hl, hz⟩ := I.tuple (xs := ns.map V.int) (.inl (.inl hs))
  rw [Vals.ref1 r]
  have hi := rv.ints
  refine sorted_ordT SrtO.swo_int hl (by rw [← rv.length]; exact hz) (fun h2 h₁ a' _ _ => SrtO.ints_sortable hi h2) fun out h1 h2 => ?_
  obtain ⟨k1, k2, k3⟩ := SrtO.ints_out hi h1 h2
  obtain ⟨ep, he'⟩ := PyProof.Rows.sortedAll_at s.heap its out.toArray
  have hlen : ((out.map SrtO.iv).map V.int).length ≤ sizeLine := by
    rw [List.length_map, k2.length_eq]
    rw [List.length_map] at hz
    exact hz
  exact ⟨.ref _, upd H (s.heap.objs.size + 1) (.lst ((out.map SrtO.iv).map V.int)), I.laid (t' := s.toks) (fun _ _ => PyProof.Rows.sortedAll_old) (Nat.le_succ _) ⟨hlen, out, ep, vals_of_ints k1, he'⟩, rfl, q _ _ k2 k3 (I.hok.fresh (Nat.le_succ _))⟩
end Fx
/-! a staticmethod called within a try -/
namespace Fx
open PySem PySem.Spec PyProof.Rows L2
section
variable {X : Cx} {k : Nat} {C p g : Addr} {mc : Value} {m : Str} {fd : FuncData} {ps : List Str} {sp : Sp} {W : WX} {o e : Expr} {es : List Expr} {ta : TE} {t : TA} {pos apos : Pos}
def tSMethT (C : Addr) (sp : Sp) (E : L2.St → XK) (ta : TE) (t : TA) : TE := fun σ H Q => ta σ H fun x H1 => x = .ref C ∧ t σ H1 fun vs H2 => sp vs H2 Q (E σ)
theorem pe_smethT {pl : Sem Bool} (he : PE X o ta) (r : ClX.CRead X.K C mc) (c : CSta X.K C mc m p g) (F : FnOk X.prog X.w X.K X.mg X.base (L2.CX X.prog X.w) k g fd ps sp) (hr : Room k X.A) (hb : Binds X.K fd ps []) (tk : Takes X W) (ha : PA X (e :: es) t)
    (hst : starEach (e :: es) X.env = (false, eval e X.env) :: starEach es X.env := by rfl) (hpl : (backTo pos (starEach es X.env)).any (·.1) = false := by rfl)
    (ht : eval (.Call (.Attribute o m apos) (e :: es) [] pos) X.env = (do
      let ov ← eval o X.env
      standAt apos.atName
      let (f, first) ← holding [ov] (getMethod ov m pl)
      callWith pos f first (backTo pos (starEach (e :: es) X.env)) (backToKw pos (keywordEach [] X.env))) := by rfl) :
    PE X (.Call (.Attribute o m apos) (e :: es) [] pos) (tSMethT C sp (WE W) ta t) := by
  refine ⟨fun pins s σ H Q I h => ?_⟩
  refine PySem.W.methodCall_KW (pl := pl) (thn (he.run pins s σ H _ I h) fun u s1 ⟨x, H1, I1, rx, ex, q⟩ => ?_) ht
  subst ex
  obtain rfl : u = Value.ref C := rx
  obtain ⟨rest, hp⟩ := c.rc
  refine PySem.W.method_cls I1.kIn r.ga ?_
  refine PySem.W.cls_bind I1.kIn r.rd c.at_ ?_
  refine wpAny_call (PySem.W.sm_get (s := { s1 with toks := s1.toks + 1 }) I1.kIn hp (PySem.W.handed_on rfl ?_))
  refine PySem.W.callWith_K (first := []) (h₀ := X.base) I1.ok.mod.kin c.kp (thn (ha.run pos pins _ σ H1 _ (I1.tok _) q) fun us s2 ⟨vs, H2, I2, rv, q2⟩ => ⟨I2.kIn, ?_⟩) hst hpl
  exact run_fnS (us := us) (vs := vs) (E := WE W) F hr hb (passAt tk σ) I2 rv q2
end
theorem in_seqK {X : Cx} {K : PySem.W.Frag} (hK : X.K = K) : OpR X (compareOp .In) (rIn K false) := by subst hK; exact op_in_seq
end Fx
namespace K16
open PySem PySem.Spec PyProof.Rows L2 Fx

def top (i : Nat) : Stmt := PySem.Challenge.pw_fablemill_k16_bad_trees.main.body.getD i (.Pass ⟨0, 0, 0, 0⟩)
abbrev s_Tree_MU_initU : Stmt := inClass (top 16) 0
abbrev N_Tree_MU_initU : List Str := ["self", "rows", "many", "place", "holder", "marks", "mark", "row", "thing", "found"]
theorem sc_Tree_MU_initU : FnScope N_Tree_MU_initU ["self", "rows"] (defScope s_Tree_MU_initU) := ⟨rfl, rfl, rfl, by decide +kernel, rfl, by decide +kernel, by decide +kernel⟩
theorem bn_Tree_MU_initU : BindQ "__init__" "Tree.__init__" s_Tree_MU_initU ["self", "rows"] := fun _ _ _ _ _ _ us hl => match us, hl with | [_, _], _ => rfl
abbrev s_Tree_M_of : Stmt := inClass (top 16) 1
abbrev N_Tree_M_of : List Str := ["rows", "bad", "tree", "row"]
theorem sc_Tree_M_of : FnScope N_Tree_M_of ["rows"] (defScope s_Tree_M_of) := ⟨rfl, rfl, rfl, by decide +kernel, rfl, by decide +kernel, by decide +kernel⟩
theorem bn_Tree_M_of : BindQ "of" "Tree.of" s_Tree_M_of ["rows"] := fun _ _ _ _ _ _ us hl => match us, hl with | [_], _ => rfl
abbrev s_Tree_M_check_thing : Stmt := inClass (top 16) 2
abbrev N_Tree_M_check_thing : List Str := ["self", "thing"]
theorem sc_Tree_M_check_thing : FnScope N_Tree_M_check_thing ["self", "thing"] (defScope s_Tree_M_check_thing) := ⟨rfl, rfl, rfl, by decide +kernel, rfl, by decide +kernel, by decide +kernel⟩
theorem bn_Tree_M_check_thing : BindQ "check_thing" "Tree.check_thing" s_Tree_M_check_thing ["self", "thing"] := fun _ _ _ _ _ _ us hl => match us, hl with | [_, _], _ => rfl
abbrev s_Tree_M_parts_of : Stmt := inClass (top 16) 7
abbrev N_Tree_M_parts_of : List Str := ["self", "thing", "row", "at"]
theorem sc_Tree_M_parts_of : FnScope N_Tree_M_parts_of ["self", "thing"] (defScope s_Tree_M_parts_of) := ⟨rfl, rfl, rfl, by decide +kernel, rfl, by decide +kernel, by decide +kernel⟩
theorem bn_Tree_M_parts_of : BindQ "parts_of" "Tree.parts_of" s_Tree_M_parts_of ["self", "thing"] := fun _ _ _ _ _ _ us hl => match us, hl with | [_, _], _ => rfl
abbrev s_Tree_MU_lenU : Stmt := inClass (top 16) 15
abbrev N_Tree_MU_lenU : List Str := ["self"]
theorem sc_Tree_MU_lenU : FnScope N_Tree_MU_lenU ["self"] (defScope s_Tree_MU_lenU) := ⟨rfl, rfl, rfl, by decide +kernel, rfl, by decide +kernel, by decide +kernel⟩
theorem bn_Tree_MU_lenU : BindQ "__len__" "Tree.__len__" s_Tree_MU_lenU ["self"] := fun _ _ _ _ _ _ us hl => match us, hl with | [_], _ => rfl
abbrev s_Tree_M_told : Stmt := inClass (top 16) 18
abbrev N_Tree_M_told : List Str := ["self", "thing"]
theorem sc_Tree_M_told : FnScope N_Tree_M_told ["self"] (defScope s_Tree_M_told) := ⟨rfl, rfl, rfl, by decide +kernel, rfl, by decide +kernel, by decide +kernel⟩
theorem bn_Tree_M_told : BindQ "told" "Tree.told" s_Tree_M_told ["self"] := fun _ _ _ _ _ _ us hl => match us, hl with | [_], _ => rfl
abbrev s_Tree_MU_eqU : Stmt := inClass (top 16) 19
abbrev N_Tree_MU_eqU : List Str := ["self", "other"]
theorem sc_Tree_MU_eqU : FnScope N_Tree_MU_eqU ["self", "other"] (defScope s_Tree_MU_eqU) := ⟨rfl, rfl, rfl, by decide +kernel, rfl, by decide +kernel, by decide +kernel⟩
theorem bn_Tree_MU_eqU : BindQ "__eq__" "Tree.__eq__" s_Tree_MU_eqU ["self", "other"] := fun _ _ _ _ _ _ us hl => match us, hl with | [_, _], _ => rfl
abbrev s__wall : Stmt := top 0
abbrev N__wall : List Str := ["k"]
theorem sc__wall : FnScope N__wall ["k"] (defScope s__wall) := ⟨rfl, rfl, rfl, by decide +kernel, rfl, by decide +kernel, by decide +kernel⟩
theorem bn__wall : BindP "_wall" s__wall ["k"] := fun _ _ _ _ _ _ us hl => match us, hl with | [_], _ => rfl
abbrev s_is_integer : Stmt := top 6
abbrev N_is_integer : List Str := ["thing", "low", "high"]
theorem sc_is_integer : FnScope N_is_integer ["thing", "low", "high"] (defScope s_is_integer) := ⟨rfl, rfl, rfl, by decide +kernel, rfl, by decide +kernel, by decide +kernel⟩
theorem bn_is_integer : BindP "is_integer" s_is_integer ["thing", "low", "high"] := fun _ _ _ _ _ _ us hl => match us, hl with | [_, _, _], _ => rfl
abbrev s_are_marks : Stmt := top 10
abbrev N_are_marks : List Str := ["thing", "most", "place", "mark"]
theorem sc_are_marks : FnScope N_are_marks ["thing", "most"] (defScope s_are_marks) := ⟨rfl, rfl, rfl, by decide +kernel, rfl, by decide +kernel, by decide +kernel⟩
theorem bn_are_marks : BindP "are_marks" s_are_marks ["thing", "most"] := fun _ _ _ _ _ _ us hl => match us, hl with | [_, _], _ => rfl
abbrev s_has_no_place : Stmt := top 11
abbrev N_has_no_place : List Str := ["holders", "thing", "at", "step"]
theorem sc_has_no_place : FnScope N_has_no_place ["holders", "thing"] (defScope s_has_no_place) := ⟨rfl, rfl, rfl, by decide +kernel, rfl, by decide +kernel, by decide +kernel⟩
theorem bn_has_no_place : BindP "has_no_place" s_has_no_place ["holders", "thing"] := fun _ _ _ _ _ _ us hl => match us, hl with | [_, _], _ => rfl
abbrev s_comes_back : Stmt := top 12
abbrev N_comes_back : List Str := ["holders", "thing", "at", "step"]
theorem sc_comes_back : FnScope N_comes_back ["holders", "thing"] (defScope s_comes_back) := ⟨rfl, rfl, rfl, by decide +kernel, rfl, by decide +kernel, by decide +kernel⟩
theorem bn_comes_back : BindP "comes_back" s_comes_back ["holders", "thing"] := fun _ _ _ _ _ _ us hl => match us, hl with | [_, _], _ => rfl
abbrev s_is_row_of_parts : Stmt := top 13
abbrev N_is_row_of_parts : List Str := ["holders", "besides", "first", "thing", "seen", "at", "one"]
theorem sc_is_row_of_parts : FnScope N_is_row_of_parts ["holders", "besides", "first", "thing"] (defScope s_is_row_of_parts) := ⟨rfl, rfl, rfl, by decide +kernel, rfl, by decide +kernel, by decide +kernel⟩
theorem bn_is_row_of_parts : BindP "is_row_of_parts" s_is_row_of_parts ["holders", "besides", "first", "thing"] := fun _ _ _ _ _ _ us hl => match us, hl with | [_, _, _, _], _ => rfl
abbrev s_is_row : Stmt := top 14
abbrev N_is_row : List Str := ["row", "most", "many"]
theorem sc_is_row : FnScope N_is_row ["row", "most", "many"] (defScope s_is_row) := ⟨rfl, rfl, rfl, by decide +kernel, rfl, by decide +kernel, by decide +kernel⟩
theorem bn_is_row : BindP "is_row" s_is_row ["row", "most", "many"] := fun _ _ _ _ _ _ us hl => match us, hl with | [_, _, _], _ => rfl
abbrev s_check_rows : Stmt := top 15
abbrev N_check_rows : List Str := ["rows", "most", "many", "place", "row", "holders", "besides"]
theorem sc_check_rows : FnScope N_check_rows ["rows", "most"] (defScope s_check_rows) := ⟨rfl, rfl, rfl, by decide +kernel, rfl, by decide +kernel, by decide +kernel⟩
theorem bn_check_rows : BindP "check_rows" s_check_rows ["rows", "most"] := fun _ _ _ _ _ _ us hl => match us, hl with | [_, _], _ => rfl
abbrev s__law_bag : Stmt := top 18
abbrev N__law_bag : List Str := ["_law_script", "_law_mixed", "_law_cell"]
theorem sc__law_bag : FnScope N__law_bag ["_law_script"] (defScope s__law_bag) := ⟨rfl, rfl, rfl, by decide +kernel, rfl, by decide +kernel, by decide +kernel⟩
theorem bn__law_bag : BindP "_law_bag" s__law_bag ["_law_script"] := fun _ _ _ _ _ _ us hl => match us, hl with | [_], _ => rfl
abbrev s__law_pick : Stmt := top 19
abbrev N__law_pick : List Str := ["_law_bag_here", "_law_many", "_law_number", "_law_cell"]
theorem sc__law_pick : FnScope N__law_pick ["_law_bag_here", "_law_many"] (defScope s__law_pick) := ⟨rfl, rfl, rfl, by decide +kernel, rfl, by decide +kernel, by decide +kernel⟩
theorem bn__law_pick : BindP "_law_pick" s__law_pick ["_law_bag_here", "_law_many"] := fun _ _ _ _ _ _ us hl => match us, hl with | [_, _], _ => rfl
abbrev s__law_choice : Stmt := top 20
abbrev N__law_choice : List Str := ["_law_bag_here", "_law_things"]
theorem sc__law_choice : FnScope N__law_choice ["_law_bag_here", "_law_things"] (defScope s__law_choice) := ⟨rfl, rfl, rfl, by decide +kernel, rfl, by decide +kernel, by decide +kernel⟩
theorem bn__law_choice : BindP "_law_choice" s__law_choice ["_law_bag_here", "_law_things"] := fun _ _ _ _ _ _ us hl => match us, hl with | [_, _], _ => rfl
abbrev s__law_one_in : Stmt := top 21
abbrev N__law_one_in : List Str := ["_law_bag_here", "_law_many"]
theorem sc__law_one_in : FnScope N__law_one_in ["_law_bag_here", "_law_many"] (defScope s__law_one_in) := ⟨rfl, rfl, rfl, by decide +kernel, rfl, by decide +kernel, by decide +kernel⟩
theorem bn__law_one_in : BindP "_law_one_in" s__law_one_in ["_law_bag_here", "_law_many"] := fun _ _ _ _ _ _ us hl => match us, hl with | [_, _], _ => rfl
abbrev s__law_shuffled : Stmt := top 22
abbrev N__law_shuffled : List Str := ["_law_bag_here", "_law_things", "_law_rest", "_law_row", "_law_k"]
theorem sc__law_shuffled : FnScope N__law_shuffled ["_law_bag_here", "_law_things"] (defScope s__law_shuffled) := ⟨rfl, rfl, rfl, by decide +kernel, rfl, by decide +kernel, by decide +kernel⟩
theorem bn__law_shuffled : BindP "_law_shuffled" s__law_shuffled ["_law_bag_here", "_law_things"] := fun _ _ _ _ _ _ us hl => match us, hl with | [_, _], _ => rfl
abbrev s__law_integer : Stmt := top 23
abbrev N__law_integer : List Str := ["_law_thing"]
theorem sc__law_integer : FnScope N__law_integer ["_law_thing"] (defScope s__law_integer) := ⟨rfl, rfl, rfl, by decide +kernel, rfl, by decide +kernel, by decide +kernel⟩
theorem bn__law_integer : BindP "_law_integer" s__law_integer ["_law_thing"] := fun _ _ _ _ _ _ us hl => match us, hl with | [_], _ => rfl
abbrev s__law_holders : Stmt := top 24
abbrev N__law_holders : List Str := ["_law_bag_here", "_law_many", "_law_order", "_law_chain", "_law_holders_here", "_law_k"]
theorem sc__law_holders : FnScope N__law_holders ["_law_bag_here", "_law_many"] (defScope s__law_holders) := ⟨rfl, rfl, rfl, by decide +kernel, rfl, by decide +kernel, by decide +kernel⟩
theorem bn__law_holders : BindP "_law_holders" s__law_holders ["_law_bag_here", "_law_many"] := fun _ _ _ _ _ _ us hl => match us, hl with | [_, _], _ => rfl
abbrev s__law_drawn_told : Stmt := top 25
abbrev N__law_drawn_told : List Str := ["_law_bag_here", "_law_many", "_law_most", "_law_holders_here", "_law_besides", "_law_firsts", "_law_thing", "_law_parts_here", "_law_k", "_law_told", "_law_marks", "_law_step", "_law_mark", "_law_one"]
theorem sc__law_drawn_told : FnScope N__law_drawn_told ["_law_bag_here", "_law_many", "_law_most"] (defScope s__law_drawn_told) := ⟨rfl, rfl, rfl, by decide +kernel, rfl, by decide +kernel, by decide +kernel⟩
theorem bn__law_drawn_told : BindP "_law_drawn_told" s__law_drawn_told ["_law_bag_here", "_law_many", "_law_most"] := fun _ _ _ _ _ _ us hl => match us, hl with | [_, _, _], _ => rfl
abbrev s__law_bad_row : Stmt := top 26
abbrev N__law_bad_row : List Str := ["_law_row", "_law_many", "_law_last", "_law_mark", "_law_number"]
theorem sc__law_bad_row : FnScope N__law_bad_row ["_law_row", "_law_many"] (defScope s__law_bad_row) := ⟨rfl, rfl, rfl, by decide +kernel, rfl, by decide +kernel, by decide +kernel⟩
theorem bn__law_bad_row : BindP "_law_bad_row" s__law_bad_row ["_law_row", "_law_many"] := fun _ _ _ _ _ _ us hl => match us, hl with | [_, _], _ => rfl
abbrev s__law_right_among : Stmt := top 27
abbrev N__law_right_among : List Str := ["_law_told", "_law_thing", "_law_many", "_law_row", "_law_at", "_law_step", "_law_seen", "_law_one"]
theorem sc__law_right_among : FnScope N__law_right_among ["_law_told", "_law_thing"] (defScope s__law_right_among) := ⟨rfl, rfl, rfl, by decide +kernel, rfl, by decide +kernel, by decide +kernel⟩
theorem bn__law_right_among : BindP "_law_right_among" s__law_right_among ["_law_told", "_law_thing"] := fun _ _ _ _ _ _ us hl => match us, hl with | [_, _], _ => rfl
abbrev s__law_first_bad : Stmt := top 28
abbrev N__law_first_bad : List Str := ["_law_told", "_law_many", "_law_thing"]
theorem sc__law_first_bad : FnScope N__law_first_bad ["_law_told"] (defScope s__law_first_bad) := ⟨rfl, rfl, rfl, by decide +kernel, rfl, by decide +kernel, by decide +kernel⟩
theorem bn__law_first_bad : BindP "_law_first_bad" s__law_first_bad ["_law_told"] := fun _ _ _ _ _ _ us hl => match us, hl with | [_], _ => rfl
abbrev s__law_odd : Stmt := top 29
abbrev N__law_odd : List Str := ["_law_bag_here", "_law_many"]
theorem sc__law_odd : FnScope N__law_odd ["_law_bag_here", "_law_many"] (defScope s__law_odd) := ⟨rfl, rfl, rfl, by decide +kernel, rfl, by decide +kernel, by decide +kernel⟩
theorem bn__law_odd : BindP "_law_odd" s__law_odd ["_law_bag_here", "_law_many"] := fun _ _ _ _ _ _ us hl => match us, hl with | [_, _], _ => rfl
abbrev s__law_odd_marks : Stmt := top 30
abbrev N__law_odd_marks : List Str := ["_law_bag_here", "_law_marks", "_law_way", "_law_mark", "_law_one"]
theorem sc__law_odd_marks : FnScope N__law_odd_marks ["_law_bag_here", "_law_marks"] (defScope s__law_odd_marks) := ⟨rfl, rfl, rfl, by decide +kernel, rfl, by decide +kernel, by decide +kernel⟩
theorem bn__law_odd_marks : BindP "_law_odd_marks" s__law_odd_marks ["_law_bag_here", "_law_marks"] := fun _ _ _ _ _ _ us hl => match us, hl with | [_, _], _ => rfl
abbrev s__law_ringed : Stmt := top 31
abbrev N__law_ringed : List Str := ["_law_bag_here", "_law_told", "_law_many", "_law_places", "_law_place", "_law_at", "_law_step", "_law_changed_here", "_law_row", "_law_thing"]
theorem sc__law_ringed : FnScope N__law_ringed ["_law_bag_here", "_law_told"] (defScope s__law_ringed) := ⟨rfl, rfl, rfl, by decide +kernel, rfl, by decide +kernel, by decide +kernel⟩
theorem bn__law_ringed : BindP "_law_ringed" s__law_ringed ["_law_bag_here", "_law_told"] := fun _ _ _ _ _ _ us hl => match us, hl with | [_, _], _ => rfl
abbrev s__law_exchanged : Stmt := top 32
abbrev N__law_exchanged : List Str := ["_law_bag_here", "_law_told", "_law_many", "_law_one", "_law_two", "_law_field", "_law_changed_here", "_law_rows_now", "_law_kept", "_law_row"]
theorem sc__law_exchanged : FnScope N__law_exchanged ["_law_bag_here", "_law_told"] (defScope s__law_exchanged) := ⟨rfl, rfl, rfl, by decide +kernel, rfl, by decide +kernel, by decide +kernel⟩
theorem bn__law_exchanged : BindP "_law_exchanged" s__law_exchanged ["_law_bag_here", "_law_told"] := fun _ _ _ _ _ _ us hl => match us, hl with | [_, _], _ => rfl
abbrev s__law_changed : Stmt := top 33
abbrev N__law_changed : List Str := ["_law_bag_here", "_law_told", "_law_many", "_law_way", "_law_place", "_law_row", "_law_field", "_law_changed_here"]
theorem sc__law_changed : FnScope N__law_changed ["_law_bag_here", "_law_told"] (defScope s__law_changed) := ⟨rfl, rfl, rfl, by decide +kernel, rfl, by decide +kernel, by decide +kernel⟩
theorem bn__law_changed : BindP "_law_changed" s__law_changed ["_law_bag_here", "_law_told"] := fun _ _ _ _ _ _ us hl => match us, hl with | [_, _], _ => rfl
abbrev s__law_judged : Stmt := top 34
abbrev N__law_judged : List Str := ["_law_told", "_law_tree", "e"]
theorem sc__law_judged : FnScope N__law_judged ["_law_told"] (defScope s__law_judged) := ⟨rfl, rfl, rfl, by decide +kernel, rfl, by decide +kernel, by decide +kernel⟩
theorem bn__law_judged : BindP "_law_judged" s__law_judged ["_law_told"] := fun _ _ _ _ _ _ us hl => match us, hl with | [_], _ => rfl
abbrev s__law_due : Stmt := top 35
abbrev N__law_due : List Str := ["_law_told", "_law_bad"]
theorem sc__law_due : FnScope N__law_due ["_law_told"] (defScope s__law_due) := ⟨rfl, rfl, rfl, by decide +kernel, rfl, by decide +kernel, by decide +kernel⟩
theorem bn__law_due : BindP "_law_due" s__law_due ["_law_told"] := fun _ _ _ _ _ _ us hl => match us, hl with | [_], _ => rfl
abbrev s__law_first_bad_pair : Stmt := top 36
abbrev N__law_first_bad_pair : List Str := ["_law_pairs", "_law_many", "_law_thing", "_law_holder", "_law_marks", "_law_at", "_law_step", "_law_mark"]
theorem sc__law_first_bad_pair : FnScope N__law_first_bad_pair ["_law_pairs"] (defScope s__law_first_bad_pair) := ⟨rfl, rfl, rfl, by decide +kernel, rfl, by decide +kernel, by decide +kernel⟩
theorem bn__law_first_bad_pair : BindP "_law_first_bad_pair" s__law_first_bad_pair ["_law_pairs"] := fun _ _ _ _ _ _ us hl => match us, hl with | [_], _ => rfl
abbrev s__law_pairs_judged : Stmt := top 37
abbrev N__law_pairs_judged : List Str := ["_law_pairs", "_law_tree", "e"]
theorem sc__law_pairs_judged : FnScope N__law_pairs_judged ["_law_pairs"] (defScope s__law_pairs_judged) := ⟨rfl, rfl, rfl, by decide +kernel, rfl, by decide +kernel, by decide +kernel⟩
theorem bn__law_pairs_judged : BindP "_law_pairs_judged" s__law_pairs_judged ["_law_pairs"] := fun _ _ _ _ _ _ us hl => match us, hl with | [_], _ => rfl
abbrev s__law_pairs_due : Stmt := top 38
abbrev N__law_pairs_due : List Str := ["_law_pairs", "_law_bad", "_law_many", "_law_told", "_law_thing", "_law_holder", "_law_marks", "_law_parts_here", "_law_beside", "_law_one", "_law_mark"]
theorem sc__law_pairs_due : FnScope N__law_pairs_due ["_law_pairs"] (defScope s__law_pairs_due) := ⟨rfl, rfl, rfl, by decide +kernel, rfl, by decide +kernel, by decide +kernel⟩
theorem bn__law_pairs_due : BindP "_law_pairs_due" s__law_pairs_due ["_law_pairs"] := fun _ _ _ _ _ _ us hl => match us, hl with | [_], _ => rfl
abbrev s__law_pairs_changed : Stmt := top 39
abbrev N__law_pairs_changed : List Str := ["_law_bag_here", "_law_pairs", "_law_many", "_law_changed_here", "_law_place", "_law_holder", "_law_marks", "_law_way"]
theorem sc__law_pairs_changed : FnScope N__law_pairs_changed ["_law_bag_here", "_law_pairs"] (defScope s__law_pairs_changed) := ⟨rfl, rfl, rfl, by decide +kernel, rfl, by decide +kernel, by decide +kernel⟩
theorem bn__law_pairs_changed : BindP "_law_pairs_changed" s__law_pairs_changed ["_law_bag_here", "_law_pairs"] := fun _ _ _ _ _ _ us hl => match us, hl with | [_, _], _ => rfl
abbrev s__law_parts : Stmt := top 40
abbrev N__law_parts : List Str := ["_law_told", "_law_thing", "_law_row", "_law_at", "_law_step"]
theorem sc__law_parts : FnScope N__law_parts ["_law_told", "_law_thing"] (defScope s__law_parts) := ⟨rfl, rfl, rfl, by decide +kernel, rfl, by decide +kernel, by decide +kernel⟩
theorem bn__law_parts : BindP "_law_parts" s__law_parts ["_law_told", "_law_thing"] := fun _ _ _ _ _ _ us hl => match us, hl with | [_, _], _ => rfl
abbrev s_law : Stmt := top 41
abbrev N_law : List Str := ["_law_script", "_law_bag_here", "_law_many", "_law_good", "_law_told", "_law_pairs", "_law_k", "_law_handed", "_law_tree", "_law_thing", "_law_row"]
theorem sc_law : FnScope N_law ["_law_script"] (defScope s_law) := ⟨rfl, rfl, rfl, by decide +kernel, rfl, by decide +kernel, by decide +kernel⟩
theorem bn_law : BindP "law" s_law ["_law_script"] := fun _ _ _ _ _ _ us hl => match us, hl with | [_], _ => rfl
structure Tx (P : Program) (K : PySem.W.Frag) (mg : Str → Option Value) : Prop where
  b_all : mg "all" = none
  b_bool : mg "bool" = none
  b_enumerate : mg "enumerate" = none
  b_int : mg "int" = none
  b_isinstance : mg "isinstance" = none
  b_len : mg "len" = none
  b_list : mg "list" = none
  b_range : mg "range" = none
  b_repr : mg "repr" = none
  b_sorted : mg "sorted" = none
  b_tuple : mg "tuple" = none
  b_super : mg "super" = none
  c_MOST_MARKS : Cst mg "MOST_MARKS" (.int 32)
  c_MOST_THINGS : Cst mg "MOST_THINGS" (.int 60)
  g_BadTree : mg "BadTree" = some (.ref (He.ga K "BadTree"))
  x_BadTree : XC K P "BadTree" "thing" (He.ga K "BadTree")
  e_BadTree : ExcC K (He.ga K "BadTree")
  g_FableError : mg "FableError" = some (.ref (He.ga K "FableError"))
  g_NoThing : mg "NoThing" = some (.ref (He.ga K "NoThing"))
  x_NoThing : XC K P "NoThing" "thing" (He.ga K "NoThing")
  e_NoThing : ExcC K (He.ga K "NoThing")
  g_Tree : mg "Tree" = some (.ref (He.ga K "Tree"))
  cl_Tree : Cls K (He.ga K "Tree")
  n_Tree_besides : NoAttr K (He.ga K "Tree") "besides"
  n_Tree_firsts : NoAttr K (He.ga K "Tree") "firsts"
  n_Tree_holders : NoAttr K (He.ga K "Tree") "holders"
  n_Tree_mark_rows : NoAttr K (He.ga K "Tree") "mark_rows"
  n_Tree_numbers_now : NoAttr K (He.ga K "Tree") "numbers_now"
  m_TT : PySem.W.exmOne K (.ref (He.ga K "BadTree")) (.ref (He.ga K "BadTree")) = some true
  k_TF : PySem.W.kitOne K (.ref (He.ga K "BadTree")) (.ref (He.ga K "FableError")) = some true
  k_TN : PySem.W.kitOne K (.ref (He.ga K "BadTree")) (.ref (He.ga K "NoThing")) = some false
  i_Tree : insB K (He.ga K "Tree") = true
theorem new_s {H H' : Hp} {p : Addr} {o : HO} (n : H p = none) (e : upd H p o = H') : Same H H' := e ▸ same_new n
theorem new_h {H H' : Hp} {p : Addr} {o : HO} (e : upd H p o = H') : H' p = some o := e ▸ upd_same
theorem tyL {K : PySem.W.Frag} {H : Hp} {p : Addr} {xs : List V} (h : H p = some (.lst xs)) : tyV K "list" (.ref p) H := .inl ⟨rfl, xs, .inl (.inl h)⟩
theorem Same.put {H H1 : Hp} {D : Addr} {o : HO} (x : Same H H1) (hD : H D = none) : Same H (upd H1 D o) := fun a o' h => by
  rw [upd_ne (ne_of_none h hD)]
  exact x a o' h
theorem none_ne {H : Hp} {a b : Addr} {o : HO} (h : H a = some o) (hb : H b = none) : a ≠ b := ne_of_none h hb
theorem cutV_lo (xs : List V) (n : Nat) : cutV xs (some (n : Int)) none = xs.drop n := by
  unfold cutV
  rw [HT.sIx_nat, HT.sIx_none]
  by_cases h : n ≤ xs.length
  · rw [Nat.min_eq_left h, List.take_of_length_le (by rw [List.length_drop]; omega)]
  · rw [Nat.min_eq_right (by omega), List.drop_of_length_le (by omega : xs.length ≤ n), List.drop_length]
    simp
theorem cutV_hi (xs : List V) (n : Nat) : cutV xs none (some (n : Int)) = xs.take n := by
  unfold cutV
  rw [HT.sIx_nat, HT.sIx_none, List.drop_zero, Nat.sub_zero]
  by_cases h : n ≤ xs.length
  · rw [Nat.min_eq_left h]
  · rw [Nat.min_eq_right (by omega), List.take_of_length_le (by omega : xs.length ≤ n), List.take_length]
theorem cutV_two (xs : List V) (a b : Nat) : cutV xs (some (a : Int)) (some (b : Int)) = (xs.drop a).take (b - a) := by
  unfold cutV
  rw [HT.sIx_nat, HT.sIx_nat]
  by_cases h : a ≤ xs.length
  · rw [Nat.min_eq_left h]
    by_cases h2 : b ≤ xs.length
    · rw [Nat.min_eq_left h2]
    · rw [Nat.min_eq_right (by omega), List.take_of_length_le (by rw [List.length_drop]; omega), List.take_of_length_le (by rw [List.length_drop]; omega)]
  · rw [Nat.min_eq_right (by omega : xs.length ≤ a), List.drop_of_length_le (by omega : xs.length ≤ a), List.drop_length]
    simp
theorem atI_ok {xs : List Int} {a : Int} (h0 : 0 ≤ a) (h : a < ((xs.map V.int).length : Nat)) : ∃ n, atI (xs.map V.int) a = some (.int n) := by
  rw [List.length_map] at h
  have e : ixN (xs.map V.int).length a = some a.toNat := by
    unfold ixN
    rw [if_pos h0, if_pos (by rw [List.length_map]; exact h)]
  unfold atI
  rw [e]
  have hl : a.toNat < xs.length := by omega
  exact ⟨xs[a.toNat], by simp [hl]⟩
theorem atI_get {α : Type} {xs : List α} {i : Nat} {v : α} (h : xs[i]? = some v) : atI xs (i : Int) = some v := by
  have hl := (List.getElem?_eq_some_iff.mp h).1
  have e : ixN xs.length (i : Int) = some i := by
    unfold ixN
    rw [if_pos (by omega), if_pos (by omega)]
    rfl
  unfold atI
  rw [e]
  exact h
theorem atI_last {α : Type} {xs : List α} {y : α} : atI (xs ++ [y]) (-1) = some y := by
  have e : ixN (xs ++ [y]).length (-1) = some xs.length := by
    unfold ixN
    rw [if_neg (by decide), List.length_append, List.length_singleton, if_pos (by omega)]
    congr 1
    omega
  unfold atI
  rw [e]
  simp
theorem ixN_last {n : Nat} : ixN (n + 1) (-1) = some n := by
  unfold ixN
  rw [if_neg (by decide), if_pos (by omega)]
  congr 1
  omega
theorem ixN_nat {n i : Nat} (h : i < n) : ixN n (i : Int) = some i := by
  unfold ixN
  rw [if_pos (by omega), if_pos (by omega)]
  rfl
theorem mapI_get {ns : List Int} {i : Nat} (h : i < ns.length) : (ns.map V.int)[i]? = some (.int ns[i]) := by simp [h]
theorem mapI_some {ns : List Int} {i : Nat} {x : V} (h : (ns.map V.int)[i]? = some x) : ∃ n, x = V.int n ∧ ns[i]? = some n := by
  rw [List.getElem?_map] at h
  cases e : ns[i]? with
  | none => rw [e] at h; cases h
  | some z => rw [e] at h; exact ⟨z, (Option.some.inj h).symm, rfl⟩
theorem atI_mem {α : Type} {xs : List α} {a : Int} (h0 : 0 ≤ a) (h : a < (xs.length : Nat)) : ∃ c, atI xs a = some c ∧ c ∈ xs := by
  have e : ixN xs.length a = some a.toNat := by
    unfold ixN
    rw [if_pos h0, if_pos h]
  unfold atI
  rw [e]
  have hl : a.toNat < xs.length := by omega
  exact ⟨xs[a.toNat], by simp [hl], List.getElem_mem hl⟩
abbrev mi (l : List Int) : List V := l.map V.int
theorem mi_app (a b : List Int) : mi (a ++ b) = mi a ++ mi b := List.map_append
theorem mi_len (a : List Int) : (mi a).length = a.length := List.length_map ..
theorem mi_take (a : List Int) (n : Nat) : (mi a).take n = mi (a.take n) := by unfold mi; rw [List.map_take]
theorem mi_drop (a : List Int) (n : Nat) : (mi a).drop n = mi (a.drop n) := by unfold mi; rw [List.map_drop]
theorem tyv_same {H H' : Hp} {v : V} {t : String} (s : Same H H') (h : tyv H v = some t) : tyv H' v = some t := by
  cases v with
  | ref a =>
    unfold tyv at h ⊢
    dsimp only at h ⊢
    cases e : H a with
    | none => rw [e] at h; cases h
    | some o => rw [e] at h; rw [s a o e]; exact h
  | _ => exact h
theorem tyv_kp {b : Addr} {H H' : Hp} {v : V} {t : String} (B : Bag H b) (k : Kp b H H') (h : tyv H v = some t) : tyv H' v = some t := by
  cases v with
  | ref a =>
    by_cases e : a = b
    · obtain ⟨kvs, h1⟩ := B.some
      obtain ⟨kvs', h2⟩ := k.bag.some
      unfold tyv at h ⊢
      dsimp only at h ⊢
      rw [e, h1] at h
      rw [e, h2]
      exact h
    · unfold tyv at h ⊢
      dsimp only at h ⊢
      cases q : H a with
      | none => rw [q] at h; cases h
      | some o => rw [q] at h; rw [k.keep a o e q]; exact h
  | _ => exact h
/-- all but the object at x is kept -/
def Kx (x : Addr) (H H' : Hp) : Prop := ∀ a o, a ≠ x → H a = some o → H' a = some o
theorem Kx.trans {x : Addr} {H H1 H2 : Hp} (a : Kx x H H1) (b : Kx x H1 H2) : Kx x H H2 := fun c o n h => b c o n (a c o n h)
theorem Kx.of {x : Addr} {H H1 : Hp} (s : Same H H1) : Kx x H H1 := fun a o _ h => s a o h
theorem Rd.kx {x : Addr} {H H' : Hp} {C dx : Addr} {fs : List (Str × V)} {a : Addr} {u : HO} (k : Kx x H H') (hx : H x = some (.ins C dx fs)) (hu : ∀ C dx fs, u ≠ .ins C dx fs) (h : L2.Rd H a u) : L2.Rd H' a u := by
  rcases h with h | ⟨o, h⟩
  · exact .inl (k a _ (ne_of h hx fun e => hu _ _ _ e) h)
  · exact .inr ⟨o, k a _ (ne_of h hx fun e => by cases e) h⟩
def SqA (K : PySem.W.Frag) (H : Hp) (a : Addr) (xs : List V) : Prop := SqL K H a xs ∨ SqT K H a xs
theorem SqA.same {K : PySem.W.Frag} {H H' : Hp} {a : Addr} {xs : List V} (h : SqA K H a xs) (s : Same H H') : SqA K H' a xs := by
  rcases h with ((h | ⟨o, h⟩) | h) | ((h | ⟨o, h⟩) | h)
  · exact .inl (.inl (.inl (s _ _ h)))
  · exact .inl (.inl (.inr ⟨o, s _ _ h⟩))
  · exact .inl (.inr h)
  · exact .inr (.inl (.inl (s _ _ h)))
  · exact .inr (.inl (.inr ⟨o, s _ _ h⟩))
  · exact .inr (.inr h)
theorem forA {K : PySem.W.Frag} {x : Addr} {C dx : Addr} {fs : List (Str × V)} {a : Addr} {xs : List V} {j : Nat} {g : TG} {tb : TS} {D : Ends} {σ : L2.St} {Hb H : Hp} (hx : Hb x = some (.ins C dx fs)) (hv : σ[j]? = some (some (.ref a))) (hq : SqA K Hb a xs) (Pv : Nat → L2.St → Hp → Prop) (h0 : Pv 0 σ H) (hS : ∀ i σ H', Pv i σ H' → Kx x Hb H')
    (hs : ∀ i y σ H, xs[i]? = some y → Pv i σ H → g y σ H fun σ2 H2 => tb { D with nx := Pv (i + 1), ct := Pv (i + 1), bk := D.nx } σ2 H2) (hd : ∀ σ H, Pv xs.length σ H → D.nx σ H) : tFor (iQ K (tVar j)) g tb D σ H := by
  rcases hq with hq | hq
  · have kL : ∀ i σ H', Pv i σ H' → SqL K H' a xs := fun i σ H' p => by
      rcases hq with hq | hq
      · exact .inl (Rd.kx (hS i σ H' p) hx (fun _ _ _ e => by cases e) hq)
      · exact .inr hq
    exact .inl ⟨_, hv, a, rfl, ⟨_, kL _ _ _ h0⟩, for_list (K := K) (a := a) (xs := xs) Pv h0 (fun i σ H' _ p => kL i σ H' p) hs hd⟩
  · have kT : ∀ i σ H', Pv i σ H' → SqT K H' a xs := fun i σ H' p => by
      rcases hq with hq | hq
      · exact .inl (Rd.kx (hS i σ H' p) hx (fun _ _ _ e => by cases e) hq)
      · exact .inr hq
    exact .inr ⟨_, hv, a, rfl, ⟨_, kT _ _ _ h0⟩, for_tup (K := K) (a := a) (xs := xs) Pv h0 (fun i σ H' _ p => kT i σ H' p) hs hd⟩
theorem Kx.free {x d : Addr} {H H' : Hp} {o : HO} (k : Kx x H H') (hx : H' x = some o) (h : H' d = none) : H d = none := by
  cases q : H d with
  | none => rfl
  | some u =>
    by_cases e : d = x
    · rw [e, hx] at h
      cases h
    · rw [k d u e q] at h
      cases h
theorem tyv_kx {x : Addr} {H H' : Hp} {C dx : Addr} {fs : List (Str × V)} {v : V} {t : String} (k : Kx x H H') (hx : H x = some (.ins C dx fs)) (h : tyv H v = some t) : tyv H' v = some t := by
  cases v with
  | ref a =>
    by_cases e : a = x
    · unfold tyv at h
      dsimp only at h
      rw [e, hx] at h
      cases h
    · unfold tyv at h ⊢
      dsimp only at h ⊢
      cases q : H a with
      | none => rw [q] at h; cases h
      | some o => rw [q] at h; rw [k a o e q]; exact h
  | _ => exact h
theorem nd_len : ∀ {a b : List Str}, a.Nodup → (∀ z ∈ a, z ∈ b) → a.length ≤ b.length
  | [], _, _, _ => Nat.zero_le _
  | x :: a, b, nd, h => by
    have hx := h x List.mem_cons_self
    have := nd_len (a := a) (b := b.erase x) (List.nodup_cons.mp nd).2 fun z hz => (List.mem_erase_of_ne (fun (e : z = x) => (List.nodup_cons.mp nd).1 (e ▸ hz))).mpr (h z (List.mem_cons_of_mem _ hz))
    rw [List.length_erase_of_mem hx] at this
    have : 0 < b.length := List.length_pos_of_mem hx
    rw [List.length_cons]
    omega
/-! ### trees -/
structure Tr where
  hol : List Nat
  bes : List Nat
  fir : List Nat
  mks : List (List Nat)
def Tr.n (T : Tr) : Nat := T.hol.length - 1
structure TrO where
  hol : Addr
  mr : Addr
  bes : Addr
  fir : Addr
  num : Addr
  ds : List Addr
abbrev ni (l : List Nat) : List V := l.map fun n => V.int (n : Nat)
def mkv (l : List Nat) : List (Key × V) := l.map fun m => (.inl ((m : Nat) : Int), .bl true)
def trF (A : TrO) : List (Str × V) := [("holders", .ref A.hol), ("mark_rows", .ref A.mr), ("besides", .ref A.bes), ("firsts", .ref A.fir), ("numbers_now", .ref A.num)]
structure TreeAt (K : PySem.W.Frag) (H : Hp) (x : Addr) (A : TrO) (T : Tr) : Prop where
  ins : ∃ dx, H x = some (.ins (He.ga K "Tree") dx (trF A))
  hol : H A.hol = some (.lst (ni T.hol))
  bes : H A.bes = some (.lst (ni T.bes))
  fir : H A.fir = some (.lst (ni T.fir))
  num : H A.num = some (.lst (ni (List.range' 1 T.n)))
  mr : H A.mr = some (.lst (A.ds.map V.ref))
  dl : A.ds.length = T.mks.length
  ds : ∀ (i : Nat) (d : Addr) (l : List Nat), A.ds[i]? = some d → T.mks[i]? = some l → H d = some (.dK (mkv l))
  nd : A.ds.Nodup
  ne : [A.hol, A.bes, A.fir, A.num, A.mr].Nodup
theorem TreeAt.same {K : PySem.W.Frag} {H H' : Hp} {x : Addr} {A : TrO} {T : Tr} (h : TreeAt K H x A T) (s : Same H H') : TreeAt K H' x A T where
  ins := let ⟨dx, h⟩ := h.ins; ⟨dx, s _ _ h⟩
  hol := s _ _ h.hol
  bes := s _ _ h.bes
  fir := s _ _ h.fir
  num := s _ _ h.num
  mr := s _ _ h.mr
  dl := h.dl
  ds := fun i d l e1 e2 => s _ _ (h.ds i d l e1 e2)
  nd := h.nd
  ne := h.ne
/-- the sizes and bounds of a tree's lists -/
structure TrOk (T : Tr) : Prop where
  n1 : 1 ≤ T.n
  n60 : T.n ≤ 60
  lh : T.hol.length = T.n + 1
  lb : T.bes.length = T.n + 1
  lf : T.fir.length = T.n + 1
  lm : T.mks.length = T.n + 1
  vh : ∀ v ∈ T.hol, v ≤ T.n
  vb : ∀ v ∈ T.bes, v ≤ T.n
  vf : ∀ v ∈ T.fir, v ≤ T.n
  vm : ∀ l ∈ T.mks, l.Nodup ∧ ∀ m ∈ l, m < 32
theorem ni_get {l : List Nat} {i : Nat} (h : i < l.length) : (ni l)[i]? = some (.int (l.getD i 0 : Nat)) := by
  rw [List.getElem?_map, List.getElem?_eq_getElem h, List.getD_eq_getElem?_getD, List.getElem?_eq_getElem h]
  rfl
theorem ni_at {l : List Nat} {i : Nat} (h : i < l.length) : atI (ni l) (i : Nat) = some (.int (l.getD i 0 : Nat)) := atI_get (ni_get h)
theorem getD_le {l : List Nat} {n i : Nat} (h : ∀ v ∈ l, v ≤ n) : l.getD i 0 ≤ n := by
  rw [List.getD_eq_getElem?_getD]
  cases e : l[i]? with
  | none => exact Nat.zero_le _
  | some v => exact h v (List.mem_of_getElem? e)
/-- no integer (a bool is none) -/
def NoInt (H : Hp) (v : V) : Prop := (∃ b, v = .bl b) ∨ ∃ t, tyv H v = some t ∧ kitB t "int" = some false
theorem NoInt.same {H H' : Hp} {v : V} (h : NoInt H v) (s : Same H H') : NoInt H' v := by
  rcases h with h | ⟨t, h1, h2⟩
  · exact .inl h
  · exact .inr ⟨t, tyv_same s h1, h2⟩
theorem NoInt.kp {b : Addr} {H H' : Hp} {v : V} (h : NoInt H v) (B : Bag H b) (k : Kp b H H') : NoInt H' v := by
  rcases h with h | ⟨t, h1, h2⟩
  · exact .inl h
  · exact .inr ⟨t, tyv_kp B k h1, h2⟩
def BadN (H : Hp) (v : V) (lo hi : Int) : Prop := NoInt H v ∨ ∃ i, v = .int i ∧ ¬ (lo ≤ i ∧ i ≤ hi)
theorem BadN.same {H H' : Hp} {v : V} {lo hi : Int} (h : BadN H v lo hi) (s : Same H H') : BadN H' v lo hi := h.elim (fun h => .inl (h.same s)) .inr
theorem BadN.kp {b : Addr} {H H' : Hp} {v : V} {lo hi : Int} (h : BadN H v lo hi) (B : Bag H b) (k : Kp b H H') : BadN H' v lo hi := h.elim (fun h => .inl (h.kp B k)) .inr
def spIsI : Sp := fun vs H Q _ => ∃ (v : V) (lo hi : Int), vs = [v, .int lo, .int hi] ∧ ((∃ i, v = .int i ∧ lo ≤ i ∧ i ≤ hi ∧ Q (.bl true) H) ∨ (BadN H v lo hi ∧ Q (.bl false) H))
/-- an error of the class c about v -/
def Err (K : PySem.W.Frag) (c f : Str) (v : V) (H : Hp) (E : XK) : Prop := ∀ d H', Same H H' → H d = none → H' d = some (.xd [(f, v)]) → E (.ref (He.ga K c)) (some d) H'
def spChk (K : PySem.W.Frag) : Sp := fun vs H Q E => ∃ (x : Addr) (A : TrO) (T : Tr) (v : V), vs = [.ref x, v] ∧ TreeAt K H x A T ∧ TrOk T ∧
  ((∃ i : Nat, v = .int i ∧ i ≤ T.n ∧ ∀ H', Same H H' → Q .non H') ∨ (BadN H v 0 T.n ∧ Err K "NoThing" "thing" v H E))
/-- a number that is told of a thing -/
def spNum (K : PySem.W.Frag) (f : Tr → Nat → Nat) (g : Tr → Prop) : Sp := fun vs H Q E => ∃ (x : Addr) (A : TrO) (T : Tr) (v : V), vs = [.ref x, v] ∧ TreeAt K H x A T ∧ TrOk T ∧ g T ∧
  ((∃ i : Nat, v = .int i ∧ i ≤ T.n ∧ ∀ H', Same H H' → Q (.int (f T i : Nat)) H') ∨ (BadN H v 0 T.n ∧ Err K "NoThing" "thing" v H E))
def spLen (K : PySem.W.Frag) : Sp := fun vs H Q _ => ∃ (x : Addr) (A : TrO) (T : Tr), vs = [.ref x] ∧ TreeAt K H x A T ∧ TrOk T ∧ ∀ H', Same H H' → Q (.int (T.n : Nat)) H'
def spCont (K : PySem.W.Frag) : Sp := fun vs H Q _ => ∃ (x : Addr) (A : TrO) (T : Tr) (v : Int), vs = [.ref x, .int v] ∧ TreeAt K H x A T ∧ TrOk T ∧ Q (.bl (decide (1 ≤ v ∧ v ≤ T.n))) H
def spIter (K : PySem.W.Frag) : Sp := fun vs H Q _ => ∃ (x : Addr) (A : TrO) (T : Tr), vs = [.ref x] ∧ TreeAt K H x A T ∧ ∀ it, H it = none → Q (.ref it) (upd H it (LItO A.num it 0))
def spHas (K : PySem.W.Frag) : Sp := fun vs H Q E => ∃ (x : Addr) (A : TrO) (T : Tr) (v m : V), vs = [.ref x, v, m] ∧ TreeAt K H x A T ∧ TrOk T ∧
  ((∃ i j : Nat, v = .int i ∧ m = .int j ∧ i ≤ T.n ∧ j < 32 ∧ ∀ H', Same H H' → Q (.bl (decide (j ∈ T.mks.getD i []))) H') ∨ (BadN H v 0 T.n ∧ Err K "NoThing" "thing" v H E) ∨
   (∃ i : Nat, v = .int i ∧ i ≤ T.n ∧ BadN H m 0 31 ∧ Err K "BadMark" "mark" m H E))
theorem ni_len (l : List Nat) : (ni l).length = l.length := List.length_map ..
theorem TrOk.n_ {t : Tr} (ok : TrOk t) : (((ni t.hol).length : Nat) : Int) - 1 = (t.n : Nat) := by
  rw [ni_len, ok.lh]
  omega
theorem keyI {a j : Nat} : ((.inl ((a : Nat) : Int) : Key) = .inl ((j : Nat) : Int)) ↔ a = j := by
  constructor
  · intro h
    have := Sum.inl.inj h
    omega
  · rintro rfl
    rfl
theorem valV_mkv {j : Nat} : ∀ {l : List Nat}, valV (mkv l) (.inl (j : Int)) = if j ∈ l then some (.bl true) else none
  | [] => rfl
  | a :: l => by
    have ih := valV_mkv (j := j) (l := l)
    show valV ((.inl ((a : Nat) : Int), V.bl true) :: mkv l) _ = _
    by_cases e : a = j
    · rw [valV_pos (keyI.mpr e), if_pos (by rw [e]; exact List.mem_cons_self)]
    · rw [valV_neg (fun h => e (keyI.mp h)), ih]
      by_cases h : j ∈ l
      · rw [if_pos h, if_pos (List.mem_cons_of_mem _ h)]
      · rw [if_neg h, if_neg (fun h2 => (List.mem_cons.mp h2).elim (fun h3 => e h3.symm) h)]
theorem putK_mkv {j : Nat} {l : List Nat} : putK (mkv l) (.inl (j : Int)) (.bl true) = if j ∈ l then mkv l else mkv (l ++ [j]) := by
  unfold putK
  rw [valV_any, valV_mkv]
  by_cases h : j ∈ l
  · rw [if_pos h, if_pos h]
    show (if true = true then _ else _) = _
    rw [if_pos rfl]
    refine (List.map_congr_left fun kv hkv => ?_).trans (List.map_id _)
    obtain ⟨m, _, rfl⟩ := List.mem_map.mp hkv
    split <;> rfl
  · rw [if_neg h, if_neg h]
    show (if false = true then _ else _) = _
    rw [if_neg (by decide), mkv, mkv, List.map_append]
    rfl
theorem dropK_mkv {j : Nat} (l : List Nat) : dropK (mkv l) (.inl (j : Int)) = mkv (l.filter fun m => !decide (m = j)) := by
  unfold dropK
  induction l with
  | nil => rfl
  | cons a l ih =>
    show List.filter _ ((.inl ((a : Nat) : Int), V.bl true) :: mkv l) = _
    by_cases e : a = j
    · rw [List.filter_cons_of_neg (by rw [decide_eq_true_eq]; exact fun h => h (keyI.mpr e)), List.filter_cons_of_neg (by simpa using e)]
      exact ih
    · rw [List.filter_cons_of_pos (by rw [decide_eq_true_eq]; exact fun h => e (keyI.mp h)), List.filter_cons_of_pos (by simpa using e)]
      show _ = (.inl ((a : Nat) : Int), V.bl true) :: mkv (l.filter _)
      rw [← ih]
/-- what a deed on the tree changes -/
def TrO.fp (A : TrO) (a : Addr) : Prop := a = A.hol ∨ a = A.bes ∨ a = A.fir ∨ a ∈ A.ds
/-- a tree's own objects -/
def TrO.own (A : TrO) : List Addr := A.hol :: A.mr :: A.bes :: A.fir :: A.num :: A.ds
/-- all but these is kept -/
def Kf (F : Addr → Prop) (H H' : Hp) : Prop := ∀ a o, ¬ F a → H a = some o → H' a = some o
theorem Kf.refl {F : Addr → Prop} {H : Hp} : Kf F H H := fun _ _ _ h => h
theorem Kf.of {F : Addr → Prop} {H H' : Hp} (s : Same H H') : Kf F H H' := fun a o _ h => s a o h
theorem Kf.trans {F : Addr → Prop} {H H1 H2 : Hp} (a : Kf F H H1) (b : Kf F H1 H2) : Kf F H H2 := fun c o n h => b c o n (a c o n h)
theorem Kf.upd {F : Addr → Prop} {H H1 : Hp} (a : Kf F H H1) {D : Addr} (hD : F D) (o : HO) : Kf F H (upd H1 D o) := fun c u n h => by
  rw [upd_ne (fun e : c = D => n (by rw [e]; exact hD))]
  exact a c u n h
theorem lst_ne_dk {H : Hp} {a b : Addr} {xs : List V} {kvs : List (Key × V)} (h1 : H a = some (.lst xs)) (h2 : H b = some (.dK kvs)) : a ≠ b := ne_of h1 h2 (by intro z; cases z)
/-- one dict of marks is changed -/
theorem TreeAt.mark {K : PySem.W.Frag} {H : Hp} {x : Addr} {A : TrO} {T : Tr} (h : TreeAt K H x A T) {i : Nat} {d : Addr} {l' : List Nat} (hd : A.ds[i]? = some d) (hi : i < T.mks.length) : TreeAt K (upd H d (.dK (mkv l'))) x A { T with mks := T.mks.set i l' } := by
  have hdd := h.ds i d _ hd (List.getElem?_eq_getElem hi)
  obtain ⟨dx, hx⟩ := h.ins
  refine ⟨⟨dx, by rw [upd_ne (ne_of hx hdd (by intro z; cases z))]; exact hx⟩, ?_, ?_, ?_, ?_, ?_, by rw [List.length_set]; exact h.dl, fun i' d' l e1 e2 => ?_, h.nd, h.ne⟩
  · rw [upd_ne (lst_ne_dk h.hol hdd)]; exact h.hol
  · rw [upd_ne (lst_ne_dk h.bes hdd)]; exact h.bes
  · rw [upd_ne (lst_ne_dk h.fir hdd)]; exact h.fir
  · rw [upd_ne (lst_ne_dk h.num hdd)]; exact h.num
  · rw [upd_ne (lst_ne_dk h.mr hdd)]; exact h.mr
  · by_cases e : i' = i
    · subst e
      rw [hd] at e1
      cases e1
      have e3 : (T.mks.set i' l')[i']? = some l := e2
      rw [List.getElem?_set_self hi] at e3
      cases e3
      exact upd_same
    · have e3 : (T.mks.set i l')[i']? = some l := e2
      rw [List.getElem?_set_ne (Ne.symm e)] at e3
      have hne : d' ≠ d := fun z => by
        subst z
        have h1 := (List.getElem?_eq_some_iff.mp e1).1
        exact e ((List.getElem?_inj h1 h.nd).mp (e1.trans hd.symm))
      rw [upd_ne hne]
      exact h.ds i' d' l e1 e3
theorem TrOk.mark {T : Tr} (ok : TrOk T) {i : Nat} {l' : List Nat} (nd : l'.Nodup) (hb : ∀ m ∈ l', m < 32) : TrOk { T with mks := T.mks.set i l' } :=
  ⟨ok.n1, ok.n60, ok.lh, ok.lb, ok.lf, (List.length_set ..).trans ok.lm, ok.vh, ok.vb, ok.vf, fun l hl => by
    rcases List.mem_or_eq_of_mem_set hl with h | rfl
    · exact ok.vm l h
    · exact ⟨nd, hb⟩⟩
def giveL (i j : Nat) (l : List Nat) : List Nat := if i = 0 ∨ j ∈ l then l else l ++ [j]
def stripL (j : Nat) (l : List Nat) : List Nat := l.filter fun m => !decide (m = j)
/-- a deed on the marks of a thing -/
def spMarks (K : PySem.W.Frag) (g : Nat → Nat → List Nat → List Nat) : Sp := fun vs H Q E => ∃ (x : Addr) (A : TrO) (T : Tr) (v m : V), vs = [.ref x, v, m] ∧ TreeAt K H x A T ∧ TrOk T ∧
  ((∃ i j : Nat, v = .int i ∧ m = .int j ∧ i ≤ T.n ∧ j < 32 ∧ ∀ H', Kf A.fp H H' → TreeAt K H' x A { T with mks := T.mks.set i (g i j (T.mks.getD i [])) } → TrOk { T with mks := T.mks.set i (g i j (T.mks.getD i [])) } → Q .non H') ∨
   (BadN H v 0 T.n ∧ Err K "NoThing" "thing" v H E) ∨ (∃ i : Nat, v = .int i ∧ i ≤ T.n ∧ BadN H m 0 31 ∧ Err K "BadMark" "mark" m H E))
theorem setD_self {l : List (List Nat)} {i : Nat} (h : i < l.length) : l.set i (l.getD i []) = l := by
  rw [List.getD_eq_getElem?_getD, List.getElem?_eq_getElem h]
  exact List.set_getElem_self ..
theorem nodup_le : ∀ {a b : List Nat}, a.Nodup → (∀ z ∈ a, z ∈ b) → a.length ≤ b.length
  | [], _, _, _ => Nat.zero_le _
  | x :: a, b, nd, h => by
    have hx := h x List.mem_cons_self
    have := nodup_le (a := a) (b := b.erase x) (List.nodup_cons.mp nd).2 fun z hz => (List.mem_erase_of_ne (fun (e : z = x) => (List.nodup_cons.mp nd).1 (e ▸ hz))).mpr (h z (List.mem_cons_of_mem _ hz))
    rw [List.length_erase_of_mem hx] at this
    have := List.length_pos_of_mem hx
    rw [List.length_cons]
    omega
theorem nodup_lt {l : List Nat} {n : Nat} (nd : l.Nodup) (h : ∀ m ∈ l, m < n) : l.length ≤ n := by
  have := nodup_le nd (b := List.range n) fun z hz => List.mem_range.mpr (h z hz)
  rw [List.length_range] at this
  exact this
/-! ### the forest of a tree -/
def Chain (bes : List Nat) : Nat → List Nat → Prop
  | f, [] => f = 0
  | f, p :: ps => f = p ∧ p ≠ 0 ∧ Chain bes (bes.getD p 0) ps
/-- the holders lead to 0 -/
def Ranked (hol : List Nat) (n : Nat) (r : Nat → Nat) : Prop := ∀ t, 1 ≤ t → t ≤ n → r (hol.getD t 0) < r t ∧ r t ≤ n
structure Forest (T : Tr) (P : List (List Nat)) : Prop where
  len : P.length = T.n + 1
  mem : ∀ h t, h ≤ T.n → (t ∈ P.getD h [] ↔ 1 ≤ t ∧ t ≤ T.n ∧ T.hol.getD t 0 = h)
  nd : ∀ l ∈ P, l.Nodup
  ch : ∀ h, 1 ≤ h → h ≤ T.n → Chain T.bes (T.fir.getD h 0) (P.getD h [])
  f0 : T.fir.getD 0 0 = 0
  b0 : ∀ t, t ≤ T.n → T.hol.getD t 0 = 0 → T.bes.getD t 0 = 0
  h0 : T.hol.getD 0 0 = 0
  rk : ∃ r, Ranked T.hol T.n r
/-- a rank may be bounded by the number of things -/
theorem rank_bd {hol : List Nat} {n : Nat} (hb : ∀ v ∈ hol, v ≤ n) {r : Nat → Nat} (h : ∀ t, 1 ≤ t → t ≤ n → r (hol.getD t 0) < r t) : ∃ r', Ranked hol n r' := by
  refine ⟨fun t => ((List.range' 1 n).filter fun u => decide (r u ≤ r t)).length, fun t h1 h2 => ⟨?_, ?_⟩⟩
  · have sub : ∀ z ∈ t :: (List.range' 1 n).filter (fun u => decide (r u ≤ r (hol.getD t 0))), z ∈ (List.range' 1 n).filter fun u => decide (r u ≤ r t) := fun z hz => by
      rcases List.mem_cons.mp hz with rfl | hz
      · exact List.mem_filter.mpr ⟨List.mem_range'_1.mpr ⟨h1, by omega⟩, by simp⟩
      · obtain ⟨a, b⟩ := List.mem_filter.mp hz
        have := h t h1 h2
        exact List.mem_filter.mpr ⟨a, by
          rw [decide_eq_true_eq] at b ⊢
          omega⟩
    have nd : (t :: (List.range' 1 n).filter (fun u => decide (r u ≤ r (hol.getD t 0)))).Nodup := by
      refine List.nodup_cons.mpr ⟨fun hm => ?_, (List.nodup_range' ..).filter _⟩
      have := (List.mem_filter.mp hm).2
      rw [decide_eq_true_eq] at this
      have := h t h1 h2
      omega
    have := nodup_le nd sub
    rw [List.length_cons] at this
    exact this
  · have := List.length_filter_le (fun u => decide (r u ≤ r t)) (List.range' 1 n)
    rw [List.length_range'] at this
    exact this
def inside (hol : List Nat) (thing : Nat) : Nat → Nat → Bool
  | 0, _ => false
  | k + 1, at_ => if at_ = 0 then false else if at_ = thing then true else inside hol thing k (hol.getD at_ 0)
theorem inside_more {hol : List Nat} {n thing : Nat} {r : Nat → Nat} (hb : ∀ v ∈ hol, v ≤ n) (hr : Ranked hol n r) : ∀ (k at_ : Nat), at_ ≤ n → (at_ ≠ 0 → r at_ ≤ k) → ∀ m, k ≤ m → inside hol thing m at_ = inside hol thing k at_
  | 0, at_, ha, h, m, _ => by
    have e : at_ = 0 := Classical.byContradiction fun g => by
      have := h g
      have := hr at_ (by omega) ha
      omega
    subst e
    cases m with
    | zero => rfl
    | succ m => rfl
  | k + 1, at_, ha, h, m, hm => by
    obtain ⟨m, rfl⟩ : ∃ q, m = q + 1 := ⟨m - 1, by omega⟩
    unfold inside
    by_cases g : at_ = 0
    · rw [if_pos g, if_pos g]
    · rw [if_neg g, if_neg g]
      by_cases g2 : at_ = thing
      · rw [if_pos g2, if_pos g2]
      · rw [if_neg g2, if_neg g2]
        have h1 := hr at_ (by omega) ha
        have h2 := h g
        exact inside_more hb hr k _ (getD_le hb) (fun _ => by omega) m (by omega)
def topN (hol : List Nat) : Nat → Nat → Nat
  | 0, at_ => at_
  | k + 1, at_ => if hol.getD at_ 0 = 0 then at_ else topN hol k (hol.getD at_ 0)
theorem topN_more {hol : List Nat} {n : Nat} {r : Nat → Nat} (hb : ∀ v ∈ hol, v ≤ n) (h0 : hol.getD 0 0 = 0) (hr : Ranked hol n r) : ∀ (k at_ : Nat), at_ ≤ n → (at_ ≠ 0 → r at_ ≤ k) → ∀ m, k ≤ m → topN hol m at_ = topN hol k at_
  | 0, at_, ha, h, m, _ => by
    have e : at_ = 0 := Classical.byContradiction fun g => by
      have := h g
      have := hr at_ (by omega) ha
      omega
    subst e
    cases m with
    | zero => rfl
    | succ m =>
      unfold topN
      rw [if_pos h0]
  | k + 1, at_, ha, h, m, hm => by
    obtain ⟨m, rfl⟩ : ∃ q, m = q + 1 := ⟨m - 1, by omega⟩
    unfold topN
    by_cases g : hol.getD at_ 0 = 0
    · rw [if_pos g, if_pos g]
    · rw [if_neg g, if_neg g]
      have g0 : at_ ≠ 0 := fun e => g (by rw [e]; exact h0)
      have h1 := hr at_ (by omega) ha
      have h2 := h g0
      exact topN_more hb h0 hr k _ (getD_le hb) (fun _ => by omega) m (by omega)
def partsOf (P : List (List Nat)) (h : Nat) : List Nat := if h = 0 then [] else P.getD h []
def RankT (T : Tr) : Prop := T.hol.getD 0 0 = 0 ∧ ∃ r, Ranked T.hol T.n r
def spHolds (K : PySem.W.Frag) : Sp := fun vs H Q E => ∃ (x : Addr) (A : TrO) (T : Tr) (v w : V), vs = [.ref x, v, w] ∧ TreeAt K H x A T ∧ TrOk T ∧ RankT T ∧
  ((∃ i j : Nat, v = .int i ∧ w = .int j ∧ i ≤ T.n ∧ j ≤ T.n ∧ ∀ H', Same H H' → Q (.bl (inside T.hol i T.n (T.hol.getD j 0))) H') ∨ (BadN H v 0 T.n ∧ Err K "NoThing" "thing" v H E) ∨
   (∃ i : Nat, v = .int i ∧ i ≤ T.n ∧ BadN H w 0 T.n ∧ Err K "NoThing" "thing" w H E))
def spParts (K : PySem.W.Frag) : Sp := fun vs H Q E => ∃ (x : Addr) (A : TrO) (T : Tr) (P : List (List Nat)) (v : V), vs = [.ref x, v] ∧ TreeAt K H x A T ∧ TrOk T ∧ Forest T P ∧
  ((∃ i : Nat, v = .int i ∧ i ≤ T.n ∧ ∀ p H', Same H H' → H p = none → H' p = some (.tup (ni (partsOf P i))) → Q (.ref p) H') ∨ (BadN H v 0 T.n ∧ Err K "NoThing" "thing" v H E))
/-- thing i is taken from its holder and put ahead of the parts of h -/
def movedP (P : List (List Nat)) (o h i : Nat) : List (List Nat) := (P.set o ((P.getD o []).erase i)).set h (i :: ((P.set o ((P.getD o []).erase i)).getD h []))
/-- what a move makes of the tree -/
structure Moved (T T' : Tr) (P : List (List Nat)) (i h : Nat) : Prop where
  ok : TrOk T'
  hol : T'.hol = T.hol.set i h
  mks : T'.mks = T.mks
  for_ : Forest T' (movedP P (T.hol.getD i 0) h i)
def stays (T : Tr) (i h : Nat) : Bool := decide (i = 0) || decide (i = h) || inside T.hol i T.n (T.hol.getD h 0)
def spMove (K : PySem.W.Frag) : Sp := fun vs H Q E => ∃ (x : Addr) (A : TrO) (T : Tr) (P : List (List Nat)) (v w : V), vs = [.ref x, v, w] ∧ TreeAt K H x A T ∧ TrOk T ∧ Forest T P ∧
  ((∃ i h : Nat, v = .int i ∧ w = .int h ∧ i ≤ T.n ∧ h ≤ T.n ∧ (stays T i h = true → ∀ H', Same H H' → Q .non H') ∧ (stays T i h = false → ∀ T' H', Kf A.fp H H' → Moved T T' P i h → TreeAt K H' x A T' → Q .non H')) ∨
   (BadN H v 0 T.n ∧ Err K "NoThing" "thing" v H E) ∨ (∃ i : Nat, v = .int i ∧ i ≤ T.n ∧ BadN H w 0 T.n ∧ Err K "NoThing" "thing" w H E))
theorem TreeAt.nes {K : PySem.W.Frag} {H : Hp} {x : Addr} {A : TrO} {T : Tr} (h : TreeAt K H x A T) : (A.hol ≠ A.bes ∧ A.hol ≠ A.fir ∧ A.hol ≠ A.num ∧ A.hol ≠ A.mr) ∧ (A.bes ≠ A.fir ∧ A.bes ≠ A.num ∧ A.bes ≠ A.mr) ∧ (A.fir ≠ A.num ∧ A.fir ≠ A.mr) ∧ A.num ≠ A.mr := by
  have := h.ne
  simp only [List.nodup_cons, List.mem_cons, List.not_mem_nil, or_false, not_or, not_false_eq_true, List.nodup_nil, and_true] at this
  exact this
/-- one of the lists of numbers is changed -/
theorem TreeAt.put {K : PySem.W.Frag} {H : Hp} {x : Addr} {A : TrO} {T : Tr} (h : TreeAt K H x A T) {D : Addr} {xs ys : List V} (hD : H D = some (.lst xs)) (n1 : D ≠ A.num) (n2 : D ≠ A.mr) {T' : Tr} (en : T'.n = T.n) (em : T'.mks = T.mks)
    (e1 : (D = A.hol ∧ ys = ni T'.hol) ∨ (D ≠ A.hol ∧ T'.hol = T.hol)) (e2 : (D = A.bes ∧ ys = ni T'.bes) ∨ (D ≠ A.bes ∧ T'.bes = T.bes)) (e3 : (D = A.fir ∧ ys = ni T'.fir) ∨ (D ≠ A.fir ∧ T'.fir = T.fir)) : TreeAt K (upd H D (.lst ys)) x A T' := by
  obtain ⟨dx, hx⟩ := h.ins
  have go : ∀ {a : Addr} {l l' : List Nat}, H a = some (.lst (ni l)) → ((D = a ∧ ys = ni l') ∨ (D ≠ a ∧ l' = l)) → (upd H D (.lst ys)) a = some (.lst (ni l')) := fun {a l l'} ha e => by
    rcases e with ⟨rfl, rfl⟩ | ⟨e, rfl⟩
    · exact upd_same
    · rw [upd_ne (Ne.symm e)]
      exact ha
  refine ⟨⟨dx, by rw [upd_ne (ne_of hx hD (by intro z; cases z))]; exact hx⟩, go h.hol e1, go h.bes e2, go h.fir e3, ?_, ?_, by rw [em]; exact h.dl, fun i d l a b => ?_, h.nd, h.ne⟩
  · rw [upd_ne (Ne.symm n1), en]
    exact h.num
  · rw [upd_ne (Ne.symm n2)]
    exact h.mr
  · rw [em] at b
    have := h.ds i d l a b
    rw [upd_ne (Ne.symm (lst_ne_dk hD this))]
    exact this
theorem Tr.n_set {T : Tr} {l b f : List Nat} {m : List (List Nat)} (e : l.length = T.hol.length) : Tr.n ⟨l, b, f, m⟩ = T.n := by
  unfold Tr.n
  rw [e]
theorem TreeAt.sHol {K : PySem.W.Frag} {H : Hp} {x : Addr} {A : TrO} {T : Tr} (h : TreeAt K H x A T) {l : List Nat} (e : l.length = T.hol.length) : TreeAt K (upd H A.hol (.lst (ni l))) x A ⟨l, T.bes, T.fir, T.mks⟩ := by
  obtain ⟨⟨a, b, c, d⟩, _, _⟩ := h.nes
  exact h.put h.hol c d (Tr.n_set e) rfl (.inl ⟨rfl, rfl⟩) (.inr ⟨a, rfl⟩) (.inr ⟨b, rfl⟩)
theorem TreeAt.sBes {K : PySem.W.Frag} {H : Hp} {x : Addr} {A : TrO} {T : Tr} (h : TreeAt K H x A T) (l : List Nat) : TreeAt K (upd H A.bes (.lst (ni l))) x A ⟨T.hol, l, T.fir, T.mks⟩ := by
  obtain ⟨⟨a, _⟩, ⟨b, c, d⟩, _⟩ := h.nes
  exact h.put h.bes c d rfl rfl (.inr ⟨Ne.symm a, rfl⟩) (.inl ⟨rfl, rfl⟩) (.inr ⟨b, rfl⟩)
theorem TreeAt.sFir {K : PySem.W.Frag} {H : Hp} {x : Addr} {A : TrO} {T : Tr} (h : TreeAt K H x A T) (l : List Nat) : TreeAt K (upd H A.fir (.lst (ni l))) x A ⟨T.hol, T.bes, l, T.mks⟩ := by
  obtain ⟨⟨_, a, _⟩, ⟨b, _⟩, ⟨c, d⟩, _⟩ := h.nes
  exact h.put h.fir c d rfl rfl (.inr ⟨Ne.symm a, rfl⟩) (.inr ⟨Ne.symm b, rfl⟩) (.inl ⟨rfl, rfl⟩)
theorem getD_set {l : List Nat} {i j v : Nat} : (l.set i v).getD j 0 = if i = j ∧ j < l.length then v else l.getD j 0 := by
  rw [List.getD_eq_getElem?_getD, List.getD_eq_getElem?_getD, List.getElem?_set]
  by_cases h : i = j
  · subst h
    by_cases h2 : i < l.length
    · rw [if_pos rfl, if_pos h2, if_pos ⟨rfl, h2⟩]
      rfl
    · rw [if_pos rfl, if_neg h2, if_neg (fun z => h2 z.2), List.getElem?_eq_none (by omega)]
  · rw [if_neg h, if_neg (fun z => h z.1)]
theorem getDL_set {l : List (List Nat)} {i j : Nat} {v : List Nat} : (l.set i v).getD j [] = if i = j ∧ j < l.length then v else l.getD j [] := by
  rw [List.getD_eq_getElem?_getD, List.getD_eq_getElem?_getD, List.getElem?_set]
  by_cases h : i = j
  · subst h
    by_cases h2 : i < l.length
    · rw [if_pos rfl, if_pos h2, if_pos ⟨rfl, h2⟩]
      rfl
    · rw [if_pos rfl, if_neg h2, if_neg (fun z => h2 z.2), List.getElem?_eq_none (by omega)]
  · rw [if_neg h, if_neg (fun z => h z.1)]
theorem chain_set {bes : List Nat} {z v : Nat} : ∀ {l : List Nat} {f : Nat}, Chain bes f l → z ∉ l → Chain (bes.set z v) f l
  | [], _, h, _ => h
  | p :: ps, f, ⟨h1, h2, h3⟩, hz => by
    refine ⟨h1, h2, ?_⟩
    rw [getD_set, if_neg (fun g => hz (by rw [g.1]; exact List.mem_cons_self))]
    exact chain_set h3 fun g => hz (List.mem_cons_of_mem _ g)
/-- i is cut out behind q -/
theorem chain_cut {bes : List Nat} {q i : Nat} (hq : q < bes.length) : ∀ {a c : List Nat} {f : Nat}, Chain bes f (a ++ q :: i :: c) → (a ++ q :: i :: c).Nodup → Chain (bes.set q (bes.getD i 0)) f (a ++ q :: c)
  | [], c, f, ⟨h1, h2, h3, h4, h5⟩, nd => by
    refine ⟨h1, h2, ?_⟩
    rw [getD_set, if_pos ⟨rfl, hq⟩]
    refine chain_set h5 fun g => (List.nodup_cons.mp nd).1 (List.mem_cons_of_mem _ g)
  | p :: a, c, f, ⟨h1, h2, h3⟩, nd => by
    refine ⟨h1, h2, ?_⟩
    obtain ⟨n1, n2⟩ := List.nodup_cons.mp nd
    rw [getD_set, if_neg (fun g => n1 (by rw [← g.1]; exact List.mem_append_right _ List.mem_cons_self))]
    exact chain_cut hq h3 n2
theorem chain_mid {bes : List Nat} : ∀ {a c : List Nat} {f i : Nat}, Chain bes f (a ++ i :: c) → Chain bes (bes.getD i 0) c
  | [], _, _, _, ⟨_, _, h⟩ => h
  | _ :: _, _, _, _, ⟨_, _, h⟩ => chain_mid h
theorem chain_at {bes : List Nat} : ∀ {a c : List Nat} {f i : Nat}, Chain bes f (a ++ i :: c) → Chain bes i (i :: c)
  | [], _, _, _, h => by rw [h.1] at h; exact ⟨rfl, h.2.1, h.2.2⟩
  | _ :: _, _, _, _, ⟨_, _, h⟩ => chain_at h
/-- the holders behind a move still lead to 0 -/
theorem rank_move {hol : List Nat} {n i h : Nat} {r : Nat → Nat} (hl : hol.length = n + 1) (hb : ∀ v ∈ hol, v ≤ n) (h0 : hol.getD 0 0 = 0) (hr : Ranked hol n r) (i1 : 1 ≤ i) (hi : i ≤ n) (hh : h ≤ n) (ne : i ≠ h) (no : inside hol i n (hol.getD h 0) = false) : ∃ r', Ranked (hol.set i h) n r' := by
  obtain ⟨m, rfl⟩ : ∃ m, n = m + 1 := ⟨n - 1, by omega⟩
  obtain ⟨W, hW⟩ : ∃ W : Nat → Prop, W = fun t => t = i ∨ inside hol i (m + 1) (hol.getD t 0) = true := ⟨_, rfl⟩
  have up : ∀ t, t ≠ i → (W (hol.getD t 0) ↔ W t) := fun t ht => by
    rw [hW]
    dsimp only
    generalize eu : hol.getD t 0 = u
    have hu : u ≤ m + 1 := by rw [← eu]; exact getD_le hb
    by_cases g : u = 0
    · subst g
      rw [h0]
      have e : inside hol i (m + 1) 0 = false := if_pos rfl
      rw [e]
      constructor
      · rintro (k | k)
        · omega
        · cases k
      · rintro (k | k)
        · exact absurd k ht
        · cases k
    · have e : inside hol i (m + 1) u = if u = i then true else inside hol i m (hol.getD u 0) := if_neg g
      have h1 := hr u (by omega) hu
      rw [e, ← inside_more hb hr m (hol.getD u 0) (getD_le hb) (fun _ => by omega) (m + 1) (by omega)]
      by_cases g2 : u = i
      · rw [if_pos g2]
        exact ⟨fun _ => .inr rfl, fun _ => .inl g2⟩
      · rw [if_neg g2]
        exact ⟨fun k => .inr (k.elim (fun z => absurd z g2) id), fun k => .inr (k.elim (fun z => absurd z ht) id)⟩
  have wi : W i := by rw [hW]; exact .inl rfl
  have wh : ¬ W h := by
    rw [hW]
    rintro (k | k)
    · exact ne k.symm
    · rw [no] at k
      cases k
  have hb' : ∀ v ∈ hol.set i h, v ≤ m + 1 := fun v hv => (List.mem_or_eq_of_mem_set hv).elim (hb v) fun e => by omega
  haveI : DecidablePred W := fun t => Classical.propDecidable _
  refine rank_bd hb' (r := fun t => if W t then r t + r h + 1 else r t) fun t t1 t2 => ?_
  by_cases e : i = t
  · subst e
    rw [show (hol.set i h).getD i 0 = h by rw [getD_set, if_pos ⟨rfl, by omega⟩], if_neg wh, if_pos wi]
    omega
  · rw [show (hol.set i h).getD t 0 = hol.getD t 0 by rw [getD_set, if_neg (fun z => e z.1)]]
    have := (hr t t1 t2).1
    have u := up t (Ne.symm e)
    by_cases w : W t
    · rw [if_pos w, if_pos (u.mpr w)]
      omega
    · rw [if_neg w, if_neg (fun z => w (u.mp z))]
      exact this
/-- thing i is taken out of its holder's row -/
structure Cut (T : Tr) (P : List (List Nat)) (i : Nat) (b1 f1 : List Nat) : Prop where
  lb : b1.length = T.n + 1
  lf : f1.length = T.n + 1
  vb : ∀ v ∈ b1, v ≤ T.n
  vf : ∀ v ∈ f1, v ≤ T.n
  ch : ∀ g, 1 ≤ g → g ≤ T.n → Chain b1 (f1.getD g 0) ((P.set (T.hol.getD i 0) ((P.getD (T.hol.getD i 0) []).erase i)).getD g [])
  f0 : f1.getD 0 0 = 0
  b0 : ∀ t, t ≤ T.n → T.hol.getD t 0 = 0 → b1.getD t 0 = 0
theorem nodup_row {T : Tr} {P : List (List Nat)} (F : Forest T P) (g : Nat) : (P.getD g []).Nodup := by
  rw [List.getD_eq_getElem?_getD]
  cases e : P[g]? with
  | none => exact .nil
  | some l => exact F.nd l (List.mem_of_getElem? e)
theorem erase_mid {a c : List Nat} {i : Nat} (h : (a ++ i :: c).Nodup) : (a ++ i :: c).erase i = a ++ c := by
  have : i ∉ a := fun z => by
    have := (List.nodup_append.mp h).2.2 i z i List.mem_cons_self
    exact this rfl
  rw [List.erase_append_right _ this, List.erase_cons_head]
/-- the rows of the others do not hear of it -/
theorem row_ne {T : Tr} {P : List (List Nat)} (F : Forest T P) {g o q : Nat} (hg : g ≤ T.n) (ho : o ≤ T.n) (h : q ∈ P.getD o []) (ne : g ≠ o) : q ∉ P.getD g [] := fun z => ne (((F.mem g q hg).mp z).2.2.symm.trans ((F.mem o q ho).mp h).2.2)
theorem cut_root {T : Tr} {P : List (List Nat)} {i : Nat} (ok : TrOk T) (F : Forest T P) (ho : T.hol.getD i 0 = 0) : Cut T P i T.bes T.fir :=
  ⟨ok.lb, ok.lf, ok.vb, ok.vf, fun g g1 g2 => by
    rw [ho, getDL_set, if_neg (fun z => by omega)]
    exact F.ch g g1 g2, F.f0, F.b0⟩
theorem cut_first {T : Tr} {P : List (List Nat)} {i o : Nat} {c : List Nat} (ok : TrOk T) (F : Forest T P) (eo : T.hol.getD i 0 = o) (o1 : 1 ≤ o) (ho : o ≤ T.n) (hP : P.getD o [] = i :: c) : Cut T P i T.bes (T.fir.set o (T.bes.getD i 0)) := by
  refine ⟨ok.lb, (List.length_set ..).trans ok.lf, ok.vb, fun v hv => (List.mem_or_eq_of_mem_set hv).elim (ok.vf v) fun e => by rw [e]; exact getD_le ok.vb, fun g g1 g2 => ?_, ?_, F.b0⟩
  · rw [eo, getDL_set, getD_set, hP, List.erase_cons_head]
    by_cases e : o = g
    · subst e
      rw [if_pos ⟨rfl, by rw [ok.lf]; omega⟩, if_pos ⟨rfl, by rw [F.len]; omega⟩]
      have := F.ch o o1 ho
      rw [hP] at this
      exact this.2.2
    · rw [if_neg (fun z => e z.1), if_neg (fun z => e z.1)]
      exact F.ch g g1 g2
  · rw [getD_set, if_neg (fun z => by omega)]
    exact F.f0
theorem cut_later {T : Tr} {P : List (List Nat)} {i o q : Nat} {a c : List Nat} (ok : TrOk T) (F : Forest T P) (eo : T.hol.getD i 0 = o) (o1 : 1 ≤ o) (ho : o ≤ T.n) (hP : P.getD o [] = a ++ q :: i :: c) : Cut T P i (T.bes.set q (T.bes.getD i 0)) T.fir := by
  have hq : q ∈ P.getD o [] := by rw [hP]; exact List.mem_append_right _ List.mem_cons_self
  have hqn := (F.mem o q ho).mp hq
  have nd := nodup_row F o
  rw [hP] at nd
  refine ⟨(List.length_set ..).trans ok.lb, ok.lf, fun v hv => (List.mem_or_eq_of_mem_set hv).elim (ok.vb v) fun e => by rw [e]; exact getD_le ok.vb, ok.vf, fun g g1 g2 => ?_, F.f0, fun t ht h0 => ?_⟩
  · rw [eo, getDL_set]
    by_cases e : o = g
    · subst e
      rw [if_pos ⟨rfl, by rw [F.len]; omega⟩]
      have h1 := F.ch o o1 ho
      rw [hP] at h1 ⊢
      rw [show a ++ q :: i :: c = (a ++ [q]) ++ i :: c by simp] at nd ⊢
      rw [erase_mid nd]
      have nd2 : (a ++ q :: i :: c).Nodup := by
        rw [show a ++ q :: i :: c = (a ++ [q]) ++ i :: c by simp]
        exact nd
      have := chain_cut (by rw [ok.lb]; omega) h1 nd2
      rw [show (a ++ [q]) ++ c = a ++ q :: c by simp]
      exact this
    · rw [if_neg (fun z => e z.1)]
      exact chain_set (F.ch g g1 g2) (row_ne F g2 ho hq (Ne.symm e))
  · rw [getD_set, if_neg (fun z => by
      have := hqn.2.2
      rw [z.1, h0] at this
      omega)]
    exact F.b0 t ht h0
/-- and put ahead of the row of h -/
theorem moved_of {T : Tr} {P : List (List Nat)} {i h : Nat} {b1 f1 : List Nat} (ok : TrOk T) (F : Forest T P) (i1 : 1 ≤ i) (hi : i ≤ T.n) (hh : h ≤ T.n) (ne : i ≠ h) (no : inside T.hol i T.n (T.hol.getD h 0) = false) (C : Cut T P i b1 f1) :
    Moved T ⟨T.hol.set i h, b1.set i (if h = 0 then 0 else f1.getD h 0), if h = 0 then f1 else f1.set h i, T.mks⟩ P i h := by
  have en : Tr.n ⟨T.hol.set i h, b1.set i (if h = 0 then 0 else f1.getD h 0), if h = 0 then f1 else f1.set h i, T.mks⟩ = T.n := Tr.n_set (List.length_set ..)
  have ho : T.hol.getD i 0 ≤ T.n := getD_le ok.vh
  have hio : i ∈ P.getD (T.hol.getD i 0) [] := (F.mem _ i ho).mpr ⟨i1, hi, rfl⟩
  -- the rows without i
  have m1 : ∀ g t, g ≤ T.n → (t ∈ (P.set (T.hol.getD i 0) ((P.getD (T.hol.getD i 0) []).erase i)).getD g [] ↔ t ≠ i ∧ t ∈ P.getD g []) := fun g t hg => by
    rw [getDL_set]
    by_cases e : T.hol.getD i 0 = g
    · rw [if_pos ⟨e, by rw [F.len]; omega⟩, e]
      exact (nodup_row F g).mem_erase_iff
    · rw [if_neg (fun z => e z.1)]
      refine ⟨fun z => ⟨?_, z⟩, fun z => z.2⟩
      rintro rfl
      exact row_ne F hg ho hio (Ne.symm e) z
  have n1 : ∀ l ∈ P.set (T.hol.getD i 0) ((P.getD (T.hol.getD i 0) []).erase i), l.Nodup := fun l hl => by
    rcases List.mem_or_eq_of_mem_set hl with h | rfl
    · exact F.nd l h
    · exact (nodup_row F _).erase _
  have l1 : (P.set (T.hol.getD i 0) ((P.getD (T.hol.getD i 0) []).erase i)).length = T.n + 1 := (List.length_set ..).trans F.len
  have cch := C.ch
  obtain ⟨P1, eP1⟩ : ∃ P1, P1 = P.set (T.hol.getD i 0) ((P.getD (T.hol.getD i 0) []).erase i) := ⟨_, rfl⟩
  have eM : movedP P (T.hol.getD i 0) h i = P1.set h (i :: P1.getD h []) := by rw [eP1]; rfl
  rw [← eP1] at m1 n1 l1 cch
  refine ⟨⟨by rw [en]; exact ok.n1, by rw [en]; exact ok.n60, ?_, ?_, ?_, ?_, ?_, ?_, ?_, ok.vm⟩, rfl, rfl, ⟨?_, ?_, ?_, ?_, ?_, ?_, ?_, ?_⟩⟩
  · rw [en]; exact (List.length_set ..).trans ok.lh
  · rw [en]; exact (List.length_set ..).trans C.lb
  · rw [en]
    show (if h = 0 then f1 else f1.set h i).length = _
    split
    · exact C.lf
    · exact (List.length_set ..).trans C.lf
  · rw [en]; exact ok.lm
  · rw [en]
    exact fun v hv => (List.mem_or_eq_of_mem_set hv).elim (ok.vh v) fun e => by omega
  · rw [en]
    refine fun v hv => (List.mem_or_eq_of_mem_set hv).elim (C.vb v) fun e => ?_
    rw [e]
    split
    · omega
    · exact getD_le C.vf
  · rw [en]
    intro v hv
    have hv : v ∈ (if h = 0 then f1 else f1.set h i) := hv
    split at hv
    · exact C.vf v hv
    · exact (List.mem_or_eq_of_mem_set hv).elim (C.vf v) fun e => by omega
  · rw [eM, en]; exact (List.length_set ..).trans l1
  · intro g t hg
    rw [en] at hg ⊢
    show _ ↔ 1 ≤ t ∧ t ≤ T.n ∧ (T.hol.set i h).getD t 0 = g
    rw [eM, getDL_set, getD_set]
    by_cases e : h = g
    · subst e
      rw [if_pos ⟨rfl, by omega⟩, List.mem_cons, m1 h t hh, F.mem h t hh]
      by_cases e2 : i = t
      · subst e2
        rw [if_pos ⟨rfl, by rw [ok.lh]; omega⟩]
        exact ⟨fun _ => ⟨i1, hi, rfl⟩, fun _ => .inl rfl⟩
      · rw [if_neg (fun z => e2 z.1)]
        exact ⟨fun z => z.elim (fun z => absurd z.symm e2) fun z => z.2, fun z => .inr ⟨Ne.symm e2, z⟩⟩
    · rw [if_neg (fun z => e z.1), m1 g t hg, F.mem g t hg]
      by_cases e2 : i = t
      · subst e2
        rw [if_pos ⟨rfl, by rw [ok.lh]; omega⟩]
        exact ⟨fun z => absurd rfl z.1, fun z => absurd z.2.2 e⟩
      · rw [if_neg (fun z => e2 z.1)]
        exact ⟨fun z => z.2, fun z => ⟨Ne.symm e2, z⟩⟩
  · intro l hl
    rw [eM] at hl
    rcases List.mem_or_eq_of_mem_set hl with k | rfl
    · exact n1 l k
    · refine List.nodup_cons.mpr ⟨fun z => ((m1 h i hh).mp z).1 rfl, ?_⟩
      rw [List.getD_eq_getElem?_getD]
      cases e : P1[h]? with
      | none => exact .nil
      | some l => exact n1 l (List.mem_of_getElem? e)
  · intro g g1 g2
    rw [en] at g2
    have ni_ : i ∉ P1.getD g [] := fun z => ((m1 g i g2).mp z).1 rfl
    have c1 := chain_set (v := if h = 0 then 0 else f1.getD h 0) (cch g g1 g2) ni_
    show Chain (b1.set i _) ((if h = 0 then f1 else f1.set h i).getD g 0) _
    by_cases e : h = g
    · subst e
      have h0 : h ≠ 0 := by omega
      have e1 : (P1.set h (i :: P1.getD h [])).getD h [] = i :: P1.getD h [] := by rw [getDL_set, if_pos ⟨rfl, by omega⟩]
      have e2 : (if h = 0 then f1 else f1.set h i).getD h 0 = i := by rw [if_neg h0, getD_set, if_pos ⟨rfl, by rw [C.lf]; omega⟩]
      rw [eM, e1, e2]
      refine ⟨rfl, by omega, ?_⟩
      rw [if_neg h0] at c1 ⊢
      rw [getD_set, if_pos ⟨rfl, by rw [C.lb]; omega⟩]
      exact c1
    · have e1 : (P1.set h (i :: P1.getD h [])).getD g [] = P1.getD g [] := by rw [getDL_set, if_neg (fun z => e z.1)]
      have e2 : (if h = 0 then f1 else f1.set h i).getD g 0 = f1.getD g 0 := by
        by_cases h0 : h = 0
        · rw [if_pos h0]
        · rw [if_neg h0, getD_set, if_neg (fun z => e z.1)]
      rw [eM, e1, e2]
      exact c1
  · show (if h = 0 then f1 else f1.set h i).getD 0 0 = 0
    by_cases h0 : h = 0
    · rw [if_pos h0]; exact C.f0
    · rw [if_neg h0, getD_set, if_neg (fun z => h0 z.1)]; exact C.f0
  · intro t ht h0
    rw [en] at ht
    have h0 : (T.hol.set i h).getD t 0 = 0 := h0
    show (b1.set i _).getD t 0 = 0
    rw [getD_set] at h0 ⊢
    by_cases e : i = t
    · subst e
      rw [if_pos ⟨rfl, by rw [ok.lh]; omega⟩] at h0
      rw [if_pos ⟨rfl, by rw [C.lb]; omega⟩, if_pos h0]
    · rw [if_neg (fun z => e z.1)] at h0 ⊢
      exact C.b0 t ht h0
  · show (T.hol.set i h).getD 0 0 = 0
    rw [getD_set, if_neg (fun z => by omega)]
    exact F.h0
  · obtain ⟨r, hr⟩ := F.rk
    rw [en]
    exact rank_move ok.lh ok.vh F.h0 hr i1 hi hh ne no
theorem ix_ni {l : List Nat} {i : Nat} (h : i < l.length) : ixN (ni l).length (i : Int) = some i := by
  unfold ixN
  rw [if_pos (by omega), if_pos (by rw [ni_len]; omega)]
  rfl
theorem ni_set (l : List Nat) (i v : Nat) : (ni l).set i (.int (v : Nat)) = ni (l.set i v) := List.map_set.symm
/-! ### what a tree tells -/
def srtN (l : List Nat) : List Nat := l.mergeSort fun a b => decide (a ≤ b)
theorem srtN_perm (l : List Nat) : (srtN l).Perm l := List.mergeSort_perm ..
theorem srtN_pw (l : List Nat) : (srtN l).Pairwise (· ≤ ·) := by
  have := List.pairwise_mergeSort (le := fun a b : Nat => decide (a ≤ b)) (fun a b c h1 h2 => by
    rw [decide_eq_true_eq] at *
    omega) (fun a b => by
    rcases Nat.le_total a b with h | h <;> simp [h]) l
  exact this.imp fun h => of_decide_eq_true h
theorem srt_uniq {a b : List Nat} (ha : a.Pairwise (· ≤ ·)) (hb : b.Pairwise (· ≤ ·)) (h : a.Perm b) : a = b := h.eq_of_pairwise (fun _ _ _ _ h1 h2 => Nat.le_antisymm h1 h2) ha hb
theorem srt_int {ys : List Int} {l : List Nat} (h : ys.Perm (l.map fun n => ((n : Nat) : Int))) (p : ys.Pairwise (· ≤ ·)) : ys = (srtN l).map fun n => ((n : Nat) : Int) := by
  refine (h.trans ((srtN_perm l).symm.map _)).eq_of_pairwise (fun _ _ _ _ h1 h2 => Int.le_antisymm h1 h2) p ?_
  exact List.pairwise_map.mpr ((srtN_pw l).imp fun h => by omega)
abbrev TRow : Type := List Nat × Nat × Nat × Nat
def rowT (T : Tr) (t : Nat) : TRow := (srtN (T.mks.getD t []), T.hol.getD t 0, T.bes.getD t 0, T.fir.getD t 0)
def rowsT (T : Tr) : List TRow := (List.range' 1 T.n).map (rowT T)
def RowAt (H : Hp) (a : Addr) (r : TRow) : Prop := ∃ m : Addr, H a = some (.tup [.ref m, .int (r.2.1 : Nat), .int (r.2.2.1 : Nat), .int (r.2.2.2 : Nat)]) ∧ H m = some (.tup (ni r.1))
theorem RowAt.same {H H' : Hp} {a : Addr} {r : TRow} (h : RowAt H a r) (s : Same H H') : RowAt H' a r := let ⟨m, h1, h2⟩ := h; ⟨m, s _ _ h1, s _ _ h2⟩
theorem RowAt.put {H : Hp} {a D : Addr} {r : TRow} {xs ys : List V} (h : RowAt H a r) (hD : H D = some (.lst xs)) : RowAt (upd H D (.lst ys)) a r := by
  obtain ⟨m, h1, h2⟩ := h
  exact ⟨m, by rw [upd_ne (ne_of h1 hD (by intro z; cases z))]; exact h1, by rw [upd_ne (ne_of h2 hD (by intro z; cases z))]; exact h2⟩
def ToldAt (H : Hp) (p : Addr) (rs : List TRow) : Prop := ∃ as : List Addr, H p = some (.tup (as.map V.ref)) ∧ as.length = rs.length ∧ ∀ (j : Nat) (a : Addr) (r : TRow), as[j]? = some a → rs[j]? = some r → RowAt H a r
theorem ToldAt.same {H H' : Hp} {p : Addr} {rs : List TRow} (h : ToldAt H p rs) (s : Same H H') : ToldAt H' p rs := let ⟨as, h1, h2, h3⟩ := h; ⟨as, s _ _ h1, h2, fun j a r e1 e2 => (h3 j a r e1 e2).same s⟩
def spTold (K : PySem.W.Frag) : Sp := fun vs H Q _ => ∃ (x : Addr) (A : TrO) (T : Tr), vs = [.ref x] ∧ TreeAt K H x A T ∧ TrOk T ∧ ∀ p H', Same H H' → H p = none → ToldAt H' p (rowsT T) → Q (.ref p) H'
theorem sz0 {n : Nat} (h : n ≤ 100000) : -(2 ^ 62) ≤ ((n : Nat) : Int) := by omega
theorem sz1 {n : Nat} (h : n ≤ 100000) : ((n : Nat) : Int) < 2 ^ 62 := by omega
def rowD (r : TRow) : PyData := .tuple [.tuple (r.1.map fun n => .int ((n : Nat) : Int)), .int (r.2.1 : Nat), .int (r.2.2.1 : Nat), .int (r.2.2.2 : Nat)]
def toldD (rs : List TRow) : PyData := .tuple (rs.map rowD)
theorem dp_ni {K : PySem.W.Frag} {H : Hp} : ∀ l : List Nat, DpAll K H (ni l) (l.map fun n => .int ((n : Nat) : Int))
  | [] => .nil
  | _ :: l => .cons (.int _) (dp_ni l)
theorem RowAt.dp {K : PySem.W.Frag} {H : Hp} {a : Addr} {r : TRow} (h : RowAt H a r) : Dp K H (.ref a) (rowD r) := by
  obtain ⟨m, h1, h2⟩ := h
  exact .tup (.inl (.inl h1)) (.cons (.tup (.inl (.inl h2)) (dp_ni _)) (.cons (.int _) (.cons (.int _) (.cons (.int _) .nil))))
theorem dp_rows {K : PySem.W.Frag} {H : Hp} : ∀ {as : List Addr} {rs : List TRow}, as.length = rs.length → (∀ (j : Nat) (a : Addr) (r : TRow), as[j]? = some a → rs[j]? = some r → RowAt H a r) → DpAll K H (as.map V.ref) (rs.map rowD)
  | [], [], _, _ => .nil
  | [], _ :: _, h, _ => by cases h
  | _ :: _, [], h, _ => by cases h
  | a :: as, r :: rs, h, k => .cons (k 0 a r rfl rfl).dp (dp_rows (Nat.succ.inj h) fun j b q e1 e2 => k (j + 1) b q e1 e2)
theorem ToldAt.dp {K : PySem.W.Frag} {H : Hp} {p : Addr} {rs : List TRow} (h : ToldAt H p rs) : Dp K H (.ref p) (toldD rs) := by
  obtain ⟨as, h1, h2, h3⟩ := h
  exact .tup (.inl (.inl h1)) (dp_rows h2 h3)
theorem eqv_ints : ∀ a b : List Nat, PyData.eqvAll (a.map fun n => .int ((n : Nat) : Int)) (b.map fun n => .int ((n : Nat) : Int)) = decide (a = b)
  | [], [] => rfl
  | [], _ :: _ => rfl
  | _ :: _, [] => rfl
  | x :: a, y :: b => by
    rw [List.map_cons, List.map_cons, PyData.eqvAll, eqv_ints a b, PyData.eqv]
    by_cases h : x = y
    · subst h
      simp
    · have : ¬ ((x : Nat) : Int) = ((y : Nat) : Int) := by omega
      simp [h, this]
theorem eqv_row (r q : TRow) : PyData.eqv (rowD r) (rowD q) = decide (r = q) := by
  obtain ⟨a, b, c, d⟩ := r
  obtain ⟨a2, b2, c2, d2⟩ := q
  have e : ∀ x y : Nat, (((x : Nat) : Int) == ((y : Nat) : Int)) = decide (x = y) := fun x y => by
    by_cases h : x = y
    · subst h
      simp
    · have : ¬ ((x : Nat) : Int) = ((y : Nat) : Int) := by omega
      rw [decide_eq_false h]
      exact beq_eq_false_iff_ne.mpr this
  simp only [rowD, PyData.eqv, PyData.eqvAll, eqv_ints, e, Prod.mk.injEq, Bool.decide_and, Bool.and_true]
theorem eqv_rows : ∀ a b : List TRow, PyData.eqvAll (a.map rowD) (b.map rowD) = decide (a = b)
  | [], [] => rfl
  | [], _ :: _ => rfl
  | _ :: _, [] => rfl
  | x :: a, y :: b => by
    rw [List.map_cons, List.map_cons, PyData.eqvAll, eqv_rows a b, eqv_row]
    simp only [List.cons.injEq, Bool.decide_and]
theorem eqv_told (a b : List TRow) : PyData.eqv (toldD a) (toldD b) = decide (a = b) := eqv_rows a b
theorem shp_ints : ∀ l : List Nat, PyData.depthAll (l.map fun n => .int ((n : Nat) : Int)) = 0
  | [] => rfl
  | _ :: l => by simp [PyData.depthAll, PyData.depth, shp_ints l]
theorem shp_row (r : TRow) : (rowD r).depth = 2 := by simp [rowD, PyData.depth, PyData.depthAll, shp_ints]
theorem shp_rows : ∀ l : List TRow, PyData.depthAll (l.map rowD) ≤ 2
  | [] => Nat.zero_le _
  | r :: l => by
    have := shp_rows l
    rw [List.map_cons, PyData.depthAll, shp_row]
    omega
theorem lay_ints : ∀ l : List Nat, PyData.canLayAll0 (l.map fun n => .int ((n : Nat) : Int)) = true
  | [] => rfl
  | _ :: l => by simp [PyData.canLayAll0, PyData.canLay0, lay_ints l]
theorem lay_rows : ∀ l : List TRow, PyData.canLayAll0 (l.map rowD) = true
  | [] => rfl
  | r :: l => by simp [PyData.canLayAll0, PyData.canLay0, rowD, lay_ints, lay_rows l]
theorem lay_told (rs : List TRow) : SeqAt.shaped (toldD rs) = true := by
  have h1 := shp_rows rs
  have h2 : (toldD rs).depth ≤ 64 := by
    rw [toldD, PyData.depth]
    omega
  rw [SeqAt.shaped, decide_eq_true h2, Bool.and_true]
  exact lay_rows rs
def spEqT (K : PySem.W.Frag) : Sp := fun vs H Q _ => ∃ (x y : Addr) (A B : TrO) (T U : Tr), vs = [.ref x, .ref y] ∧ TreeAt K H x A T ∧ TreeAt K H y B U ∧ TrOk T ∧ TrOk U ∧ ∀ H', Same H H' → Q (.bl (decide (rowsT T = rowsT U))) H'
/-! ### good rows are let -/
def spNoPlace : Sp := fun vs H Q _ => ∃ (p : Addr) (hol : List Nat) (n i : Nat) (r : Nat → Nat), vs = [.ref p, .int (i : Nat)] ∧ H p = some (.lst (ni hol)) ∧ hol.length = n + 1 ∧ (∀ v ∈ hol, v ≤ n) ∧ hol.getD 0 0 = 0 ∧ Ranked hol n r ∧ 1 ≤ i ∧ i ≤ n ∧ n ≤ 60 ∧ Q (.bl false) H
def spRowP : Sp := fun vs H Q _ => ∃ (a b : Addr) (hol bes : List Nat) (P : List Nat) (h n f : Nat), vs = [.ref a, .ref b, .int (f : Nat), .int (h : Nat)] ∧ H a = some (.lst (ni hol)) ∧ H b = some (.lst (ni bes)) ∧ n ≤ 60 ∧ hol.length = n + 1 ∧ bes.length = n + 1 ∧ 1 ≤ h ∧ h ≤ n ∧
  (P.Nodup ∧ ∀ t, t ∈ P ↔ 1 ≤ t ∧ t ≤ n ∧ hol.getD t 0 = h) ∧ Chain bes f P ∧ ∀ H', Same H H' → Q (.bl true) H'
def spAreM : Sp := fun vs H Q _ => ∃ (p : Addr) (l : List Nat), vs = [.ref p, .int 32] ∧ H p = some (.tup (ni l)) ∧ l.Pairwise (· < ·) ∧ (∀ m ∈ l, m < 32) ∧ ∀ H', Same H H' → Q (.bl true) H'
def spIsRow : Sp := fun vs H Q _ => ∃ (a : Addr) (r : TRow) (n : Nat), vs = [.ref a, .int 32, .int (n : Nat)] ∧ RowAt H a r ∧ r.1.Pairwise (· < ·) ∧ (∀ m ∈ r.1, m < 32) ∧ r.2.1 ≤ n ∧ r.2.2.1 ≤ n ∧ r.2.2.2 ≤ n ∧ n ≤ 60 ∧ ∀ H', Same H H' → Q (.bl true) H'
theorem tyv_tp {H : Hp} {a : Addr} {xs : List V} (h : H a = some (.tup xs)) : tyv H (.ref a) = some "tuple" := by
  unfold tyv
  dsimp only
  rw [h]
theorem inV_ni {g : Nat} : ∀ ds : List Nat, inV (.int (g : Nat)) (ni ds) = decide (g ∈ ds)
  | [] => rfl
  | d :: ds => by
    have ih := inV_ni (g := g) ds
    show (inV _ (V.int (d : Nat) :: ni ds)) = _
    unfold inV at ih ⊢
    rw [List.any_cons, ih]
    have e : eqV (V.int (d : Nat)) (V.int (g : Nat)) = decide (((d : Nat) : Int) = ((g : Nat) : Int)) := rfl
    rw [e]
    by_cases h : g = d
    · subst h
      simp
    · have h2 : ¬ ((d : Nat) : Int) = ((g : Nat) : Int) := by omega
      rw [decide_eq_false h2, Bool.false_or]
      by_cases h3 : g ∈ ds
      · rw [decide_eq_true h3, decide_eq_true (List.mem_cons_of_mem _ h3)]
      · rw [decide_eq_false h3, decide_eq_false (fun z => (List.mem_cons.mp z).elim h h3)]
theorem flat_ni : ∀ ds : List Nat, (ni ds).all flatV = true
  | [] => rfl
  | _ :: ds => flat_ni ds
/-- rows that a good tree may tell -/
structure RowsOk (rs : List TRow) (hol bes : List Nat) (P : List (List Nat)) (n : Nat) : Prop where
  len : rs.length = n
  n1 : 1 ≤ n
  n60 : n ≤ 60
  row : ∀ r ∈ rs, r.1.Pairwise (· < ·) ∧ (∀ m ∈ r.1, m < 32) ∧ r.2.1 ≤ n ∧ r.2.2.1 ≤ n ∧ r.2.2.2 ≤ n
  eh : hol = 0 :: rs.map fun r => r.2.1
  eb : bes = 0 :: rs.map fun r => r.2.2.1
  mem : ∀ h t, h ≤ n → (t ∈ P.getD h [] ↔ 1 ≤ t ∧ t ≤ n ∧ hol.getD t 0 = h)
  nd : ∀ h, (P.getD h []).Nodup
  ch : ∀ (i : Nat) (r : TRow), rs[i]? = some r → Chain bes r.2.2.2 (P.getD (i + 1) [])
  b0 : ∀ r ∈ rs, r.2.1 = 0 → r.2.2.1 = 0
  rk : ∃ r, Ranked hol n r
def spCheck : Sp := fun vs H Q _ => ∃ (p : Addr) (as : List Addr) (rs : List TRow) (hol bes : List Nat) (P : List (List Nat)) (n : Nat), vs = [.ref p, .int 32] ∧ Sq H p (as.map V.ref) ∧ as.length = rs.length ∧ (∀ (j : Nat) (a : Addr) (r : TRow), as[j]? = some a → rs[j]? = some r → RowAt H a r) ∧ RowsOk rs hol bes P n ∧ ∀ H', Same H H' → Q .non H'
def spComes : Sp := fun vs H Q _ => ∃ (p : Addr) (hol : List Nat) (n i : Nat) (r : Nat → Nat), vs = [.ref p, .int (i : Nat)] ∧ H p = some (.lst (ni hol)) ∧ hol.length = n + 1 ∧ (∀ v ∈ hol, v ≤ n) ∧ Ranked hol n r ∧ 1 ≤ i ∧ i ≤ n ∧ n ≤ 60 ∧ Q (.bl false) H
theorem flat_one {α : Type} (f : Nat → α) (n : Nat) : ((List.range n).map fun i => [f i]).flatten = (List.range n).map f := by
  induction n with
  | zero => rfl
  | succ n ih => simp [List.range_succ, List.map_append, List.flatten_append, ih]
theorem range_getD {l : List Nat} {n : Nat} (h : l.length = n) : (List.range n).map (fun i => V.int (l.getD i 0 : Nat)) = ni l := by
  refine List.ext_getElem (by simp [h]) fun i h1 h2 => ?_
  rw [List.getElem_map, List.getElem_range, List.getElem_map]
  rw [List.length_map] at h2
  rw [List.getD_eq_getElem?_getD, List.getElem?_eq_getElem h2]
  rfl
/-- a pair (holder, marks) at a -/
def PairAt (H : Hp) (a : Addr) (r : Nat × List Nat) : Prop := ∃ m : Addr, H a = some (.tup [.int (r.1 : Nat), .ref m]) ∧ H m = some (.tup (ni r.2))
/-- pairs that a tree is made of -/
structure PairsOk (rs : List (Nat × List Nat)) (n : Nat) : Prop where
  len : rs.length = n
  n1 : 1 ≤ n
  n60 : n ≤ 60
  row : ∀ r ∈ rs, r.1 ≤ n ∧ r.2.length ≤ 40 ∧ ∀ m ∈ r.2, m < 32
  rk : ∃ r, Ranked (0 :: rs.map fun r => r.1) n r
/-- a dict's keys, in the order in which they came first -/
def onceL (l : List Nat) : List Nat := l.foldl (fun a m => if m ∈ a then a else a ++ [m]) []
def mks0 (rs : List (Nat × List Nat)) : List (List Nat) := [] :: rs.map fun r => onceL r.2
/-- the rows of parts of a new tree: ascending -/
def rows0 (rs : List (Nat × List Nat)) (n : Nat) : List (List Nat) := (List.range (n + 1)).map fun h => (List.range' 1 n).filter fun t => decide ((0 :: rs.map fun r => r.1).getD t 0 = h)
def spTree (K : PySem.W.Frag) : Sp := fun vs H Q _ => ∃ (x p dx : Addr) (as : List Addr) (rs : List (Nat × List Nat)) (n : Nat), vs = [.ref x, .ref p] ∧ H x = some (.ins (He.ga K "Tree") dx []) ∧ Sq H p (as.map V.ref) ∧ as.length = rs.length ∧ (∀ (j : Nat) (a : Addr) (r : Nat × List Nat), as[j]? = some a → rs[j]? = some r → PairAt H a r) ∧ PairsOk rs n ∧
  ∀ A T H', Kx x H H' → (∀ a ∈ A.own, H a = none) → TreeAt K H' x A T → TrOk T → T.hol = (0 :: rs.map fun r => r.1) → T.mks = mks0 rs → Forest T (rows0 rs n) → Q .non H'
/-- the constructor's last loop: the things above t stand in their rows -/
structure Fill (hol : List Nat) (n t : Nat) (b f : List Nat) : Prop where
  lb : b.length = n + 1
  lf : f.length = n + 1
  vb : ∀ v ∈ b, v ≤ n
  vf : ∀ v ∈ f, v ≤ n
  ch : ∀ g, 1 ≤ g → g ≤ n → Chain b (f.getD g 0) ((List.range' (t + 1) (n - t)).filter fun u => decide (hol.getD u 0 = g))
  f0 : f.getD 0 0 = 0
  b0 : ∀ u, u ≤ n → hol.getD u 0 = 0 → b.getD u 0 = 0
theorem rep_getD (n i : Nat) : (List.replicate n 0).getD i 0 = 0 := by
  rw [List.getD_eq_getElem?_getD, List.getElem?_replicate]
  split <;> rfl
theorem Fill.zero (hol : List Nat) (n : Nat) : Fill hol n n (List.replicate (n + 1) 0) (List.replicate (n + 1) 0) :=
  ⟨List.length_replicate, List.length_replicate, fun v hv => by rw [(List.mem_replicate.mp hv).2]; exact Nat.zero_le _, fun v hv => by rw [(List.mem_replicate.mp hv).2]; exact Nat.zero_le _,
   fun g _ _ => by rw [Nat.sub_self]; exact rep_getD _ _, rep_getD _ _, fun u _ _ => rep_getD _ _⟩
theorem fill_row {hol : List Nat} {n t : Nat} (ht : t + 1 ≤ n) (g : Nat) : (List.range' (t + 1) (n - t)).filter (fun u => decide (hol.getD u 0 = g)) = if hol.getD (t + 1) 0 = g then (t + 1) :: (List.range' (t + 1 + 1) (n - (t + 1))).filter (fun u => decide (hol.getD u 0 = g)) else (List.range' (t + 1 + 1) (n - (t + 1))).filter fun u => decide (hol.getD u 0 = g) := by
  rw [show n - t = (n - (t + 1)) + 1 by omega, List.range'_succ]
  by_cases h : hol.getD (t + 1) 0 = g
  · rw [if_pos h, List.filter_cons_of_pos (by rw [decide_eq_true h])]
  · rw [if_neg h, List.filter_cons_of_neg (by rw [decide_eq_false h]; decide)]
theorem Fill.root {hol b f : List Nat} {n t : Nat} (h : Fill hol n (t + 1) b f) (ht : t + 1 ≤ n) (e : hol.getD (t + 1) 0 = 0) : Fill hol n t b f :=
  ⟨h.lb, h.lf, h.vb, h.vf, fun g g1 g2 => by
    rw [fill_row ht, if_neg (by omega)]
    exact h.ch g g1 g2, h.f0, h.b0⟩
theorem Fill.step {hol b f : List Nat} {n t g0 : Nat} (h : Fill hol n (t + 1) b f) (ht : t + 1 ≤ n) (e : hol.getD (t + 1) 0 = g0) (h0 : g0 ≠ 0) (hg : g0 ≤ n) : Fill hol n t (b.set (t + 1) (f.getD g0 0)) (f.set g0 (t + 1)) := by
  have nin : ∀ g, t + 1 ∉ (List.range' (t + 1 + 1) (n - (t + 1))).filter fun u => decide (hol.getD u 0 = g) := fun g z => by
    have := List.mem_range'_1.mp (List.mem_filter.mp z).1
    omega
  refine ⟨(List.length_set ..).trans h.lb, (List.length_set ..).trans h.lf, fun v hv => (List.mem_or_eq_of_mem_set hv).elim (h.vb v) fun e => by rw [e]; exact getD_le h.vf, fun v hv => (List.mem_or_eq_of_mem_set hv).elim (h.vf v) fun e => by omega, fun g g1 g2 => ?_, ?_, fun u hu e2 => ?_⟩
  · rw [fill_row ht, e, getD_set]
    have c := chain_set (v := f.getD g0 0) (h.ch g g1 g2) (nin g)
    by_cases q : g0 = g
    · subst q
      rw [if_pos rfl, if_pos ⟨rfl, by rw [h.lf]; omega⟩]
      refine ⟨rfl, by omega, ?_⟩
      rw [getD_set, if_pos ⟨rfl, by rw [h.lb]; omega⟩]
      exact c
    · rw [if_neg q, if_neg (fun z => q z.1)]
      exact c
  · rw [getD_set, if_neg (fun z => h0 z.1)]
    exact h.f0
  · rw [getD_set, if_neg (fun z => by rw [← z.1, e] at e2; exact h0 e2)]
    exact h.b0 u hu e2
theorem rg_ni (n : Nat) : rgV 1 ((n : Nat) + 1) = ni (List.range' 1 n) := by
  unfold rgV
  rw [show ((n : Int) + 1 - 1).toNat = n by omega, ni]
  refine List.ext_getElem (by simp) fun i h1 h2 => ?_
  simp only [List.getElem_map, List.getElem_range, List.getElem_range']
  congr 1
  omega
theorem rep_flat (n : Nat) : (List.replicate ((n : Int) + 1).toNat [V.int 0]).flatten = ni (List.replicate (n + 1) 0) := by
  rw [show ((n : Int) + 1) = ((n + 1 : Nat) : Int) by omega, Int.toNat_natCast, ni, List.map_replicate]
  generalize n + 1 = k
  induction k with
  | zero => rfl
  | succ k ih => rw [List.replicate_succ, List.flatten_cons, ih, List.replicate_succ]; rfl
theorem once_mem : ∀ (l a : List Nat), a.Nodup → (l.foldl (fun a m => if m ∈ a then a else a ++ [m]) a).Nodup ∧ ∀ z, z ∈ l.foldl (fun a m => if m ∈ a then a else a ++ [m]) a ↔ z ∈ a ∨ z ∈ l
  | [], a, h => ⟨h, fun z => by simp⟩
  | m :: l, a, h => by
    rw [List.foldl_cons]
    by_cases g : m ∈ a
    · rw [if_pos g]
      obtain ⟨h1, h2⟩ := once_mem l a h
      refine ⟨h1, fun z => (h2 z).trans ⟨fun k => k.elim .inl fun k => .inr (List.mem_cons_of_mem _ k), fun k => k.elim .inl fun k => (List.mem_cons.mp k).elim (fun e => .inl (by rw [e]; exact g)) .inr⟩⟩
    · rw [if_neg g]
      obtain ⟨h1, h2⟩ := once_mem l (a ++ [m]) (List.nodup_append.mpr ⟨h, by simp, fun x hx y hy e => g (by rw [← List.mem_singleton.mp hy, ← e]; exact hx)⟩)
      refine ⟨h1, fun z => (h2 z).trans ?_⟩
      rw [List.mem_append, List.mem_singleton, List.mem_cons, or_assoc]
theorem once_ok (l : List Nat) : (onceL l).Nodup ∧ ∀ z, z ∈ onceL l ↔ z ∈ l := by
  obtain ⟨h1, h2⟩ := once_mem l [] .nil
  exact ⟨h1, fun z => (h2 z).trans (by simp)⟩
theorem once_sub : ∀ (l a : List Nat), (l.foldl (fun a m => if m ∈ a then a else a ++ [m]) a).Sublist (a ++ l)
  | [], a => by simp
  | m :: l, a => by
    rw [List.foldl_cons]
    refine (once_sub l _).trans ?_
    split
    · exact List.Sublist.append (List.Sublist.refl a) (List.sublist_cons_self m l)
    · rw [List.append_assoc]
      exact List.Sublist.refl _
theorem once_srt (l : List Nat) : onceL (srtN l) = srtN (onceL l) := by
  refine srt_uniq ((srtN_pw l).sublist ?_) (srtN_pw _) ?_
  · have := once_sub (srtN l) []
    rw [List.nil_append] at this
    exact this
  · refine ((List.perm_ext_iff_of_nodup (once_ok _).1 (once_ok _).1).mpr fun z => ?_).trans (srtN_perm _).symm
    rw [(once_ok _).2, (once_ok _).2]
    exact (srtN_perm l).mem_iff
theorem once_take {l : List Nat} {j m : Nat} (h : l[j]? = some m) : onceL (l.take (j + 1)) = if m ∈ onceL (l.take j) then onceL (l.take j) else onceL (l.take j) ++ [m] := by
  unfold onceL
  rw [List.take_add_one, h]
  show List.foldl _ _ (_ ++ [m]) = _
  rw [List.foldl_append]
  rfl
theorem getD_mem {l : List Nat} {i : Nat} (h : i < l.length) : l.getD i 0 ∈ l := by
  rw [List.getD_eq_getElem?_getD, List.getElem?_eq_getElem h]
  exact List.getElem_mem h
/-- the new tree is one -/
theorem Fill.tree {rs : List (Nat × List Nat)} {n : Nat} {b f : List Nat} (R : PairsOk rs n) (h : Fill (0 :: rs.map fun r => r.1) n 0 b f) : TrOk ⟨0 :: rs.map fun r => r.1, b, f, mks0 rs⟩ ∧ Forest ⟨0 :: rs.map fun r => r.1, b, f, mks0 rs⟩ (rows0 rs n) := by
  have en : Tr.n ⟨0 :: rs.map fun r => r.1, b, f, mks0 rs⟩ = n := by
    unfold Tr.n
    rw [List.length_cons, List.length_map, R.len]
    omega
  have vh : ∀ v ∈ (0 :: rs.map fun r => r.1), v ≤ n := fun v hv => by
    rcases List.mem_cons.mp hv with rfl | hv
    · exact Nat.zero_le _
    · obtain ⟨r, hr, rfl⟩ := List.mem_map.mp hv
      exact (R.row r hr).1
  have rg : ∀ g, g ≤ n → (rows0 rs n).getD g [] = (List.range' 1 n).filter fun t => decide ((0 :: rs.map fun r => r.1).getD t 0 = g) := fun g hg => by
    rw [rows0, List.getD_eq_getElem?_getD, List.getElem?_map, List.getElem?_range (by omega)]
    rfl
  refine ⟨⟨by rw [en]; exact R.n1, by rw [en]; exact R.n60, ?_, by rw [en]; exact h.lb, by rw [en]; exact h.lf, ?_, by rw [en]; exact vh, by rw [en]; exact h.vb, by rw [en]; exact h.vf, fun l hl => ?_⟩, ⟨?_, ?_, fun l hl => ?_, ?_, h.f0, ?_, rfl, ?_⟩⟩
  · rw [en, List.length_cons, List.length_map, R.len]
  · show (mks0 rs).length = _
    rw [en, mks0, List.length_cons, List.length_map, R.len]
  · rcases List.mem_cons.mp (show l ∈ [] :: rs.map fun r => onceL r.2 from hl) with rfl | hl
    · exact ⟨.nil, fun m hm => by cases hm⟩
    · obtain ⟨r, hr, rfl⟩ := List.mem_map.mp hl
      obtain ⟨h1, h2⟩ := once_ok r.2
      exact ⟨h1, fun m hm => (R.row r hr).2.2 m ((h2 m).mp hm)⟩
  · rw [en, rows0, List.length_map, List.length_range]
  · intro g t hg
    rw [en] at hg ⊢
    rw [rg g hg, List.mem_filter, List.mem_range'_1, decide_eq_true_eq]
    exact ⟨fun z => ⟨z.1.1, by omega, z.2⟩, fun z => ⟨⟨z.1, by omega⟩, z.2.2⟩⟩
  · obtain ⟨g, hg, rfl⟩ := List.mem_map.mp hl
    exact (List.nodup_range' ..).filter _
  · intro g g1 g2
    rw [en] at g2
    rw [rg g g2]
    exact h.ch g g1 g2
  · intro t ht
    rw [en] at ht
    exact h.b0 t ht
  · rw [en]
    exact R.rk
/-- [.. for x in t], t a name of a list or a tuple, by an invariant -/
theorem lcQI {K : PySem.W.Frag} {a : Addr} {xs : List V} {g : TG} {tt : TT} {te : TE} {vs : List Nat} {σ : L2.St} {H : Hp} {Q : VK} {j : Nat} (Pv : Addr → Nat → Hp → Prop) (hv : σ[j]? = some (some (.ref a))) (hq : Sq H a xs) (h0 : ∀ D, H D = none → Pv D 0 (upd H D (.lst []))) (hS : ∀ D i H', H D = none → Pv D i H' → Same H H')
    (hs : ∀ D, H D = none → ∀ i x H', xs[i]? = some x → Pv D i H' → g x (wipe σ vs) H' fun σ2 H2 => wipe σ2 vs = wipe σ vs ∧ tt σ2 H2 fun b H3 =>
      if b = true then te σ2 H3 fun y H4 => ∃ acc, H4 D = some (.lst acc) ∧ acc.length < sizeLine ∧ Pv D (i + 1) (upd H4 D (.lst (acc ++ [y]))) else Pv D (i + 1) H3)
    (hd : ∀ D H', H D = none → Pv D xs.length H' → Q (.ref D) H') : tLc (iQ K (tVar j)) g tt te vs σ H Q := by
  rcases hq with hq | hq
  · exact .inl ⟨_, hv, a, rfl, ⟨_, .inl (.inl hq)⟩, fun D nD => lc_list (Pv D) (h0 D nD) (fun i H' _ p => .inl (.inl (hS D i H' nD p _ _ hq))) (hs D nD) (fun H' => hd D H' nD)⟩
  · exact .inr ⟨_, hv, a, rfl, ⟨_, .inl (.inl hq)⟩, fun D nD => lc_tup (Pv D) (h0 D nD) (fun i H' _ p => .inl (.inl (hS D i H' nD p _ _ hq))) (hs D nD) (fun H' => hd D H' nD)⟩
/-- Tree.of -/
def spOf (K : PySem.W.Frag) : Sp := fun vs H Q _ => ∃ (p : Addr) (as : List Addr) (rs : List TRow) (hol bes : List Nat) (P : List (List Nat)) (n : Nat), vs = [.ref p] ∧ Sq H p (as.map V.ref) ∧ as.length = rs.length ∧ (∀ (j : Nat) (a : Addr) (r : TRow), as[j]? = some a → rs[j]? = some r → RowAt H a r) ∧ RowsOk rs hol bes P n ∧
  ∀ x A H', Same H H' → (∀ a ∈ x :: A.own, H a = none) → TreeAt K H' x A ⟨hol, bes, 0 :: rs.map fun r => r.2.2.2, [] :: rs.map fun r => r.1⟩ → Q (.ref x) H'
theorem once_id {l : List Nat} (h : l.Nodup) : onceL l = l := by
  have s := once_sub l []
  rw [List.nil_append] at s
  refine s.eq_of_length ?_
  exact ((List.perm_ext_iff_of_nodup (once_ok l).1 h).mpr (once_ok l).2).length_eq
theorem RowsOk.pairs {rs : List TRow} {hol bes : List Nat} {P : List (List Nat)} {n : Nat} (R : RowsOk rs hol bes P n) : PairsOk (rs.map fun r => (r.2.1, r.1)) n := by
  refine ⟨by rw [List.length_map]; exact R.len, R.n1, R.n60, fun r hr => ?_, ?_⟩
  · obtain ⟨q, hq, rfl⟩ := List.mem_map.mp hr
    have h := R.row q hq
    have := nodup_lt (h.1.imp fun h => Nat.ne_of_lt h) (n := 32) h.2.1
    exact ⟨h.2.2.1, (by show q.1.length ≤ 40; omega), h.2.1⟩
  · have := R.rk
    rw [R.eh] at this
    rw [List.map_map]
    exact this
theorem RowsOk.mks {rs : List TRow} {hol bes : List Nat} {P : List (List Nat)} {n : Nat} (R : RowsOk rs hol bes P n) : mks0 (rs.map fun r => (r.2.1, r.1)) = [] :: rs.map fun r => r.1 := by
  rw [mks0, List.map_map]
  congr 1
  refine List.map_congr_left fun r hr => once_id ((R.row r hr).1.imp fun h => Nat.ne_of_lt h)
theorem TreeAt.own_some {K : PySem.W.Frag} {H : Hp} {x : Addr} {A : TrO} {T : Tr} (L : TreeAt K H x A T) {a : Addr} (z : a ∈ x :: A.own) : ∃ o, H a = some o := by
  obtain ⟨dx, hx⟩ := L.ins
  simp only [TrO.own, List.mem_cons] at z
  rcases z with rfl | rfl | rfl | rfl | rfl | rfl | z
  · exact ⟨_, hx⟩
  · exact ⟨_, L.hol⟩
  · exact ⟨_, L.mr⟩
  · exact ⟨_, L.bes⟩
  · exact ⟨_, L.fir⟩
  · exact ⟨_, L.num⟩
  · obtain ⟨j, hj⟩ := List.getElem?_of_mem z
    have := (List.getElem?_eq_some_iff.mp hj).1
    exact ⟨_, L.ds j _ _ hj (List.getElem?_eq_getElem (by rw [← L.dl]; exact this))⟩
theorem TreeAt.nown {K : PySem.W.Frag} {H : Hp} {x q : Addr} {A : TrO} {T : Tr} (L : TreeAt K H x A T) (n : H q = none) : q ∉ A.own := fun z => by
  obtain ⟨o, e⟩ := L.own_some (List.mem_cons_of_mem x z)
  rw [n] at e
  cases e
/-- another list of besides, of firsts -/
theorem TreeAt.fBes {K : PySem.W.Frag} {H : Hp} {x dx q : Addr} {A : TrO} {T : Tr} {l : List Nat} (h : TreeAt K H x A T) (hx : H x = some (.ins (He.ga K "Tree") dx (trF A))) (hq : H q = some (.lst (ni l))) (nq : q ∉ A.own) : TreeAt K (upd H x (.ins (He.ga K "Tree") dx (trF { A with bes := q }))) x { A with bes := q } ⟨T.hol, l, T.fir, T.mks⟩ := by
  have k : ∀ {a : Addr} {o : HO}, H a = some o → (∀ C dx fs, o ≠ .ins C dx fs) → (upd H x (.ins (He.ga K "Tree") dx (trF { A with bes := q }))) a = some o := fun h no => by
    rw [upd_ne (ne_of h hx (fun e => no _ _ _ e))]
    exact h
  obtain ⟨⟨a1, a2, a3, a4⟩, ⟨b1, b2, b3⟩, ⟨c1, c2⟩, d1⟩ := h.nes
  simp only [TrO.own, List.mem_cons, not_or] at nq
  obtain ⟨q1, q2, q3, q4, q5, q6⟩ := nq
  refine ⟨⟨dx, upd_same⟩, k h.hol (by intro _ _ _ e; cases e), k hq (by intro _ _ _ e; cases e), k h.fir (by intro _ _ _ e; cases e), k h.num (by intro _ _ _ e; cases e), k h.mr (by intro _ _ _ e; cases e), h.dl, fun i d l e1 e2 => k (h.ds i d l e1 e2) (by intro _ _ _ e; cases e), h.nd, ?_⟩
  simp only [List.nodup_cons, List.mem_cons, List.not_mem_nil, or_false, not_or, not_false_eq_true, List.nodup_nil, and_true]
  exact ⟨⟨Ne.symm q1, a2, a3, a4⟩, ⟨q4, q5, q2⟩, ⟨c1, c2⟩, d1⟩
theorem TreeAt.fFir {K : PySem.W.Frag} {H : Hp} {x dx q : Addr} {A : TrO} {T : Tr} {l : List Nat} (h : TreeAt K H x A T) (hx : H x = some (.ins (He.ga K "Tree") dx (trF A))) (hq : H q = some (.lst (ni l))) (nq : q ∉ A.own) : TreeAt K (upd H x (.ins (He.ga K "Tree") dx (trF { A with fir := q }))) x { A with fir := q } ⟨T.hol, T.bes, l, T.mks⟩ := by
  have k : ∀ {a : Addr} {o : HO}, H a = some o → (∀ C dx fs, o ≠ .ins C dx fs) → (upd H x (.ins (He.ga K "Tree") dx (trF { A with fir := q }))) a = some o := fun h no => by
    rw [upd_ne (ne_of h hx (fun e => no _ _ _ e))]
    exact h
  obtain ⟨⟨a1, a2, a3, a4⟩, ⟨b1, b2, b3⟩, ⟨c1, c2⟩, d1⟩ := h.nes
  simp only [TrO.own, List.mem_cons, not_or] at nq
  obtain ⟨q1, q2, q3, q4, q5, q6⟩ := nq
  refine ⟨⟨dx, upd_same⟩, k h.hol (by intro _ _ _ e; cases e), k h.bes (by intro _ _ _ e; cases e), k hq (by intro _ _ _ e; cases e), k h.num (by intro _ _ _ e; cases e), k h.mr (by intro _ _ _ e; cases e), h.dl, fun i d l e1 e2 => k (h.ds i d l e1 e2) (by intro _ _ _ e; cases e), h.nd, ?_⟩
  simp only [List.nodup_cons, List.mem_cons, List.not_mem_nil, or_false, not_or, not_false_eq_true, List.nodup_nil, and_true]
  exact ⟨⟨a1, Ne.symm q1, a3, a4⟩, ⟨Ne.symm q3, b2, b3⟩, ⟨q5, q2⟩, d1⟩
/-- what a good tree tells is let -/
theorem srtN_lt {l : List Nat} (h : l.Nodup) : (srtN l).Pairwise (· < ·) := by
  have n : (srtN l).Nodup := (srtN_perm l).nodup_iff.mpr h
  rw [List.nodup_iff_pairwise_ne] at n
  exact ((srtN_pw l).and n).imp fun h => Nat.lt_of_le_of_ne h.1 h.2
theorem list_of_getD {l : List Nat} {n : Nat} (h : l.length = n + 1) (f : Nat → Nat) (h0 : l.getD 0 0 = 0) (hf : ∀ t, 1 ≤ t → t ≤ n → l.getD t 0 = f t) : l = 0 :: (List.range' 1 n).map f := by
  refine List.ext_getElem (by simp [h]) fun i h1 h2 => ?_
  have e : l[i] = l.getD i 0 := by rw [List.getD_eq_getElem?_getD, List.getElem?_eq_getElem h1]; rfl
  rw [e]
  cases i with
  | zero => exact h0
  | succ i =>
    rw [List.getElem_cons_succ, List.getElem_map, List.getElem_range', hf (i + 1) (by omega) (by omega)]
    congr 1
    omega
theorem rowsT_ok {T : Tr} {P : List (List Nat)} (ok : TrOk T) (F : Forest T P) : RowsOk (rowsT T) T.hol T.bes P T.n ∧ T.fir = 0 :: (rowsT T).map fun r => r.2.2.2 := by
  refine ⟨⟨by rw [rowsT, List.length_map, List.length_range'], ok.n1, ok.n60, fun r hr => ?_, ?_, ?_, F.mem, fun h => nodup_row F h, fun i r hr => ?_, fun r hr h0 => ?_, F.rk⟩, ?_⟩
  · obtain ⟨t, ht, rfl⟩ := List.mem_map.mp hr
    have ht := List.mem_range'_1.mp ht
    have hm : T.mks.getD t [] ∈ T.mks := by
      rw [List.getD_eq_getElem?_getD, List.getElem?_eq_getElem (by rw [ok.lm]; omega)]
      exact List.getElem_mem _
    have := ok.vm _ hm
    exact ⟨srtN_lt this.1, fun m hm => this.2 m ((srtN_perm _).mem_iff.mp hm), getD_le ok.vh, getD_le ok.vb, getD_le ok.vf⟩
  · rw [rowsT, List.map_map]
    exact list_of_getD ok.lh _ F.h0 fun t _ _ => rfl
  · rw [rowsT, List.map_map]
    exact list_of_getD ok.lb _ (F.b0 0 (Nat.zero_le _) F.h0) fun t _ _ => rfl
  · rw [rowsT, List.getElem?_map] at hr
    have hi : i < (List.range' 1 T.n).length := by
      cases e : (List.range' 1 T.n)[i]? with
      | none => rw [e] at hr; cases hr
      | some z => exact (List.getElem?_eq_some_iff.mp e).1
    rw [List.getElem?_eq_getElem hi, List.getElem_range'] at hr
    cases hr
    rw [List.length_range'] at hi
    rw [show 1 + 1 * i = i + 1 by omega]
    exact F.ch (i + 1) (by omega) (by omega)
  · obtain ⟨t, ht, rfl⟩ := List.mem_map.mp hr
    have ht := List.mem_range'_1.mp ht
    exact F.b0 t (by omega) h0
  · rw [rowsT, List.map_map]
    exact list_of_getD ok.lf _ F.f0 fun t _ _ => rfl
theorem rowsT_mks {T : Tr} (ok : TrOk T) (m0 : T.mks.getD 0 [] = []) : ([] :: (rowsT T).map fun r => r.1) = T.mks.map srtN := by
  rw [rowsT, List.map_map]
  refine List.ext_getElem (by simp [ok.lm]) fun i h1 h2 => ?_
  rw [List.length_map] at h2
  rw [List.getElem_map]
  cases i with
  | zero =>
    have : T.mks[0] = [] := by
      rw [List.getD_eq_getElem?_getD, List.getElem?_eq_getElem h2] at m0
      exact m0
    rw [this]
    simp [srtN]
  | succ i =>
    rw [List.getElem_cons_succ, List.getElem_map, List.getElem_range']
    show srtN (T.mks.getD _ []) = _
    rw [show 1 + 1 * i = i + 1 by omega, List.getD_eq_getElem?_getD, List.getElem?_eq_getElem h2]
    rfl
def spCopy (K : PySem.W.Frag) : Sp := fun vs H Q _ => ∃ (x : Addr) (A : TrO) (T : Tr) (P : List (List Nat)), vs = [.ref x] ∧ TreeAt K H x A T ∧ TrOk T ∧ Forest T P ∧ T.mks.getD 0 [] = [] ∧
  ∀ y B H', Same H H' → (∀ a ∈ y :: B.own, H a = none) → TreeAt K H' y B ⟨T.hol, T.bes, T.fir, T.mks.map srtN⟩ → Q (.ref y) H'
/-! ### the law's own lists -/
def spChoiceL : Sp := fun vs H Q _ => ∃ (b p : Addr) (xs : List V), vs = [.ref b, .ref p] ∧ Bag H b ∧ H p = some (.lst xs) ∧ 0 < xs.length ∧ xs.length ≤ 100000 ∧ ∀ (v : V) (H' : Hp), v ∈ xs → Kp b H H' → Q v H'
def spOneIn : Sp := fun vs H Q _ => ∃ (b : Addr) (m : Int), vs = [.ref b, .int m] ∧ Bag H b ∧ 0 < m ∧ m < 1073741824 ∧ ∀ (c : Bool) (H' : Hp), Kp b H H' → Q (.bl c) H'
def spShuf : Sp := fun vs H Q _ => ∃ (b p : Addr) (xs : List V), vs = [.ref b, .ref p] ∧ Bag H b ∧ H p = some (.lst xs) ∧ xs.length ≤ 1000 ∧ ∀ q ys H', List.Perm ys xs → Kp b H H' → H q = none → H' q = some (.lst ys) → Q (.ref q) H'
def spOnce : Sp := fun vs H Q _ => ∃ (p : Addr) (l : List Nat), vs = [.ref p] ∧ Sq H p (ni l) ∧ l.length ≤ 1000 ∧ ∀ q H', Same H H' → H q = none → H' q = some (.lst (ni (srtN (onceL l)))) → Q (.ref q) H'
/-- drawn holders: they lead to 0 -/
structure HolOk (hol : List Nat) (n : Nat) : Prop where
  len : hol.length = n + 1
  h0 : hol.getD 0 0 = 0
  vh : ∀ v ∈ hol, v ≤ n
  rk : ∃ r, Ranked hol n r
def spHolders : Sp := fun vs H Q _ => ∃ (b : Addr) (n : Nat), vs = [.ref b, .int (n : Nat)] ∧ Bag H b ∧ 1 ≤ n ∧ n ≤ 60 ∧ ∀ q hol H', Kp b H H' → H q = none → H' q = some (.lst (ni hol)) → HolOk hol n → Q (.ref q) H'
/-- a list of pairs at q, all of it made since H -/
structure PairsAt (H : Hp) (q : Addr) (as : List Addr) (rs : List (Nat × List Nat)) : Prop where
  h : H q = some (.lst (as.map V.ref))
  la : as.length = rs.length
  row : ∀ (j : Nat) (a : Addr) (r : Nat × List Nat), as[j]? = some a → rs[j]? = some r → PairAt H a r
def spPairs : Sp := fun vs H Q _ => ∃ (b : Addr) (n : Nat), vs = [.ref b, .int (n : Nat)] ∧ Bag H b ∧ 1 ≤ n ∧ n ≤ 60 ∧ ∀ q as rs H', Kp b H H' → H q = none → PairsAt H' q as rs → PairsOk rs n → (∀ r ∈ rs, r.2.length ≤ 3) → Q (.ref q) H'
/-- a row in which each thing but the first stands behind its holder (or is held by none) -/
theorem rank_order {order : List Nat} {n : Nat} {hol : List Nat} (lh : hol.length = n + 1) (vh : ∀ v ∈ hol, v ≤ n) (nd : order.Nodup) (mem : ∀ t, t ∈ order ↔ 1 ≤ t ∧ t ≤ n)
    (h : ∀ t, hol.getD t 0 = 0 ∨ ∃ i j : Nat, i < j ∧ order[i]? = some (hol.getD t 0) ∧ order[j]? = some t) : ∃ r, Ranked hol n r := by
  refine rank_bd vh (r := fun t : Nat => if t = 0 then (0 : Nat) else order.idxOf t + 1) fun t t1 t2 => ?_
  rw [if_neg (by omega : ¬ t = 0)]
  rcases h t with e | ⟨i, j, lt, hi, hj⟩
  · rw [e, if_pos rfl]
    omega
  · have h1 := List.mem_of_getElem? hi
    have h2 := (mem _).mp h1
    rw [if_neg (by omega)]
    have li := (List.getElem?_eq_some_iff.mp hi)
    have lj := (List.getElem?_eq_some_iff.mp hj)
    obtain ⟨li, ei⟩ := li
    obtain ⟨lj, ej⟩ := lj
    have e1 : order.idxOf (hol.getD t 0) = i := by rw [← ei]; exact List.Nodup.idxOf_getElem nd i li
    have e2 : order.idxOf t = j := by
      have := List.Nodup.idxOf_getElem nd j lj
      rw [ej] at this
      exact this
    rw [e1, e2]
    omega
theorem perm_ni {ys : List V} {l : List Nat} (h : ys.Perm (ni l)) : ∃ l', ys = ni l' ∧ l'.Perm l := by
  have g : ∀ y ∈ ys, ∃ m : Nat, y = V.int (m : Nat) := fun y hy => by
    obtain ⟨m, _, e⟩ := List.mem_map.mp (h.mem_iff.mp hy)
    exact ⟨m, e.symm⟩
  have back : ∀ zs : List V, (∀ y ∈ zs, ∃ m : Nat, y = V.int (m : Nat)) → ∃ l', zs = ni l' := by
    intro zs
    induction zs with
    | nil => exact fun _ => ⟨[], rfl⟩
    | cons z zs ih =>
      intro k
      obtain ⟨m, rfl⟩ := k z List.mem_cons_self
      obtain ⟨l', rfl⟩ := ih fun y hy => k y (List.mem_cons_of_mem _ hy)
      exact ⟨m :: l', rfl⟩
  obtain ⟨l', rfl⟩ := back ys g
  refine ⟨l', rfl, ?_⟩
  have f : ∀ l : List Nat, (ni l).map (fun v => match v with | .int i => i.toNat | _ => 0) = l := fun l => by
    rw [ni, List.map_map]
    refine (List.map_congr_left fun x _ => ?_).trans (List.map_id _)
    show ((x : Nat) : Int).toNat = x
    omega
  have := h.map (fun v => match v with | .int i => i.toNat | _ => 0)
  rw [f, f] at this
  exact this
theorem seqIx {i n : Nat} (h : i < n) : seqIndex? (i : Int) n = some i := by
  unfold seqIndex?
  have e : ¬ ((i : Int) < 0) := by omega
  simp only [e, if_false]
  rw [if_pos (by simp; omega)]
  rfl
theorem eidx_perm {α : Type} {l : List α} {m : Nat} (h : m < l.length) : (l[m] :: l.eraseIdx m).Perm l := by
  rw [List.eraseIdx_eq_take_drop_succ]
  refine List.perm_middle.symm.trans ?_
  rw [← List.drop_eq_getElem_cons h, List.take_append_drop]
theorem ni_nat {n : Int} (h : 0 ≤ n) : ∃ m : Nat, n = (m : Nat) := ⟨n.toNat, by omega⟩
/-! ### the law's model of a tree -/
structure Mo where
  hl : Addr
  pp : Addr
  mm : Addr
  pa : List Addr
  ma : List Addr
def modKV (n : Nat) (C : Mo) : List (Key × V) := [(.inr "many", .int (n : Nat)), (.inr "holders", .ref C.hl), (.inr "parts", .ref C.pp), (.inr "marks", .ref C.mm)]
def Mo.own (C : Mo) : List Addr := C.hl :: C.pp :: C.mm :: (C.pa ++ C.ma)
structure ModAt (H : Hp) (d : Addr) (C : Mo) (hol : List Nat) (P mks : List (List Nat)) : Prop where
  d : H d = some (.dK (modKV (hol.length - 1) C))
  hl : H C.hl = some (.lst (ni hol))
  pp : H C.pp = some (.lst (C.pa.map V.ref))
  mm : H C.mm = some (.lst (C.ma.map V.ref))
  lp : C.pa.length = P.length
  lm : C.ma.length = mks.length
  pa : ∀ (i : Nat) (a : Addr) (l : List Nat), C.pa[i]? = some a → P[i]? = some l → H a = some (.lst (ni l))
  ma : ∀ (i : Nat) (a : Addr) (l : List Nat), C.ma[i]? = some a → mks[i]? = some l → H a = some (.lst (ni (srtN l)))
  nd : C.own.Nodup
theorem nodup_set {α : Type} {l : List α} {i : Nat} {q : α} (h : l.Nodup) (hq : q ∉ l) : (l.set i q).Nodup := by
  rw [List.nodup_iff_pairwise_ne, List.pairwise_iff_getElem] at *
  intro a b ha hb lt
  rw [List.length_set] at ha hb
  rw [List.getElem_set, List.getElem_set]
  split
  · split
    · omega
    · exact fun e => hq (by rw [e]; exact List.getElem_mem _)
  · split
    · exact fun e => hq (by rw [← e]; exact List.getElem_mem _)
    · exact h a b ha hb lt
section
variable {H H' : Hp} {d : Addr} {C : Mo} {hol : List Nat} {P mks : List (List Nat)}
theorem ModAt.cong (M : ModAt H d C hol P mks) (h : ∀ a ∈ d :: C.own, ∀ o, H a = some o → H' a = some o) : ModAt H' d C hol P mks where
  d := h _ List.mem_cons_self _ M.d
  hl := h _ (by simp [Mo.own]) _ M.hl
  pp := h _ (by simp [Mo.own]) _ M.pp
  mm := h _ (by simp [Mo.own]) _ M.mm
  lp := M.lp
  lm := M.lm
  pa := fun i a l e1 e2 => h _ (by have := List.mem_of_getElem? e1; simp [Mo.own, this]) _ (M.pa i a l e1 e2)
  ma := fun i a l e1 e2 => h _ (by have := List.mem_of_getElem? e1; simp [Mo.own, this]) _ (M.ma i a l e1 e2)
  nd := M.nd
theorem ModAt.same (M : ModAt H d C hol P mks) (s : Same H H') : ModAt H' d C hol P mks := M.cong fun a _ o h => s a o h
theorem ModAt.kf {F : Addr → Prop} (M : ModAt H d C hol P mks) (k : Kf F H H') (n : ∀ a ∈ d :: C.own, ¬ F a) : ModAt H' d C hol P mks := M.cong fun a ha o h => k a o (n a ha) h
theorem ModAt.lst (M : ModAt H d C hol P mks) {a : Addr} (h : a ∈ C.own) : ∃ xs, H a = some (.lst xs) := by
  simp only [Mo.own, List.mem_cons, List.mem_append] at h
  rcases h with rfl | rfl | rfl | h | h
  · exact ⟨_, M.hl⟩
  · exact ⟨_, M.pp⟩
  · exact ⟨_, M.mm⟩
  · obtain ⟨i, hi⟩ := List.getElem?_of_mem h
    have := (List.getElem?_eq_some_iff.mp hi).1
    exact ⟨_, M.pa i a _ hi (List.getElem?_eq_getElem (by rw [← M.lp]; exact this))⟩
  · obtain ⟨i, hi⟩ := List.getElem?_of_mem h
    have := (List.getElem?_eq_some_iff.mp hi).1
    exact ⟨_, M.ma i a _ hi (List.getElem?_eq_getElem (by rw [← M.lm]; exact this))⟩
theorem ModAt.kp {b : Addr} (M : ModAt H d C hol P mks) (B : Bag H b) (k : Kp b H H') (n : d ≠ b) : ModAt H' d C hol P mks := M.cong fun a ha o h => k.keep a o (by
  rcases List.mem_cons.mp ha with rfl | ha
  · exact n
  · obtain ⟨xs, hx⟩ := M.lst ha
    exact B.lst hx) h
/-- row i of the parts -/
theorem ModAt.row (M : ModAt H d C hol P mks) {i : Nat} (h : i < P.length) : ∃ a, C.pa[i]? = some a ∧ atI (C.pa.map V.ref) (i : Nat) = some (.ref a) ∧ H a = some (.lst (ni (P.getD i []))) := by
  have hl : i < C.pa.length := by rw [M.lp]; exact h
  refine ⟨_, List.getElem?_eq_getElem hl, atI_get (by rw [List.getElem?_map, List.getElem?_eq_getElem hl]; rfl), ?_⟩
  rw [M.pa i _ _ (List.getElem?_eq_getElem hl) (List.getElem?_eq_getElem h), List.getD_eq_getElem?_getD, List.getElem?_eq_getElem h]
  rfl
theorem ModAt.mrk (M : ModAt H d C hol P mks) {i : Nat} (h : i < mks.length) : ∃ a, C.ma[i]? = some a ∧ atI (C.ma.map V.ref) (i : Nat) = some (.ref a) ∧ H a = some (.lst (ni (srtN (mks.getD i [])))) := by
  have hl : i < C.ma.length := by rw [M.lm]; exact h
  refine ⟨_, List.getElem?_eq_getElem hl, atI_get (by rw [List.getElem?_map, List.getElem?_eq_getElem hl]; rfl), ?_⟩
  rw [M.ma i _ _ (List.getElem?_eq_getElem hl) (List.getElem?_eq_getElem h), List.getD_eq_getElem?_getD, List.getElem?_eq_getElem h]
  rfl
theorem mod_many {n : Nat} : valV (modKV n C) (.inr "many") = some (.int (n : Nat)) := rfl
theorem mod_holders {n : Nat} : valV (modKV n C) (.inr "holders") = some (.ref C.hl) := rfl
theorem mod_parts {n : Nat} : valV (modKV n C) (.inr "parts") = some (.ref C.pp) := rfl
theorem mod_marks {n : Nat} : valV (modKV n C) (.inr "marks") = some (.ref C.mm) := rfl
theorem ModAt.gMany (M : ModAt H d C hol P mks) : DGet H d (.str "many") (some (.int (hol.length - 1 : Nat))) := DGet.k (k := .inr "many") M.d
theorem ModAt.gHol (M : ModAt H d C hol P mks) : DGet H d (.str "holders") (some (.ref C.hl)) := DGet.k (k := .inr "holders") M.d
theorem ModAt.gPar (M : ModAt H d C hol P mks) : DGet H d (.str "parts") (some (.ref C.pp)) := DGet.k (k := .inr "parts") M.d
theorem ModAt.gMrk (M : ModAt H d C hol P mks) : DGet H d (.str "marks") (some (.ref C.mm)) := DGet.k (k := .inr "marks") M.d
theorem ModAt.nds (M : ModAt H d C hol P mks) : (C.hl ≠ C.pp ∧ C.hl ≠ C.mm ∧ C.hl ∉ C.pa ∧ C.hl ∉ C.ma) ∧ (C.pp ≠ C.mm ∧ C.pp ∉ C.pa ∧ C.pp ∉ C.ma) ∧ (C.mm ∉ C.pa ∧ C.mm ∉ C.ma) ∧ C.pa.Nodup ∧ C.ma.Nodup ∧ ∀ a ∈ C.pa, a ∉ C.ma := by
  have := M.nd
  unfold Mo.own at this
  simp only [List.nodup_cons, List.mem_cons, List.mem_append, not_or] at this
  obtain ⟨⟨a1, a2, a3, a4⟩, ⟨b1, b2, b3⟩, ⟨c1, c2⟩, h⟩ := this
  obtain ⟨h1, h2, h3⟩ := List.nodup_append.mp h
  exact ⟨⟨a1, a2, a3, a4⟩, ⟨b1, b2, b3⟩, ⟨c1, c2⟩, h1, h2, fun a ha hb => h3 a ha a hb rfl⟩
/-- one row of parts is changed -/
theorem ModAt.sRow (M : ModAt H d C hol P mks) {i : Nat} {a : Addr} (ha : C.pa[i]? = some a) (l' : List Nat) : ModAt (upd H a (.lst (ni l'))) d C hol (P.set i l') mks := by
  have hi := (List.getElem?_eq_some_iff.mp ha).1
  have hiP : i < P.length := by rw [← M.lp]; exact hi
  have hm := List.mem_of_getElem? ha
  have hla := M.pa i a _ ha (List.getElem?_eq_getElem hiP)
  obtain ⟨⟨a1, a2, a3, a4⟩, ⟨b1, b2, b3⟩, ⟨c1, c2⟩, h1, h2, h3⟩ := M.nds
  refine ⟨?_, ?_, ?_, ?_, by rw [List.length_set]; exact M.lp, M.lm, fun j a' l e1 e2 => ?_, fun j a' l e1 e2 => ?_, M.nd⟩
  · rw [upd_ne (Ne.symm (lst_ne_dk hla M.d))]; exact M.d
  · rw [upd_ne (fun e => a3 (by rw [e]; exact hm))]; exact M.hl
  · rw [upd_ne (fun e => b2 (by rw [e]; exact hm))]; exact M.pp
  · rw [upd_ne (fun e => c1 (by rw [e]; exact hm))]; exact M.mm
  · by_cases e : i = j
    · subst e
      rw [ha] at e1
      cases e1
      rw [List.getElem?_set_self hiP] at e2
      cases e2
      exact upd_same
    · rw [List.getElem?_set_ne e] at e2
      have ne : a' ≠ a := fun z => by
        subst z
        exact e ((List.getElem?_inj hi h1).mp (ha.trans e1.symm))
      rw [upd_ne ne]
      exact M.pa j a' l e1 e2
  · rw [upd_ne (fun e => h3 a hm (by rw [← e]; exact List.mem_of_getElem? e1))]
    exact M.ma j a' l e1 e2
theorem ModAt.sHol (M : ModAt H d C hol P mks) (l' : List Nat) (e : l'.length = hol.length) : ModAt (upd H C.hl (.lst (ni l'))) d C l' P mks := by
  obtain ⟨⟨a1, a2, a3, a4⟩, ⟨b1, b2, b3⟩, ⟨c1, c2⟩, h1, h2, h3⟩ := M.nds
  refine ⟨?_, upd_same, ?_, ?_, M.lp, M.lm, fun j a' l e1 e2 => ?_, fun j a' l e1 e2 => ?_, M.nd⟩
  · rw [upd_ne (Ne.symm (lst_ne_dk M.hl M.d)), e]; exact M.d
  · rw [upd_ne (Ne.symm a1)]; exact M.pp
  · rw [upd_ne (Ne.symm a2)]; exact M.mm
  · rw [upd_ne (fun e => a3 (by rw [← e]; exact List.mem_of_getElem? e1))]
    exact M.pa j a' l e1 e2
  · rw [upd_ne (fun e => a4 (by rw [← e]; exact List.mem_of_getElem? e1))]
    exact M.ma j a' l e1 e2
/-- a new row of marks takes the place of an old one -/
theorem ModAt.sMk (M : ModAt H d C hol P mks) {i : Nat} {q : Addr} {l' : List Nat} (hi : i < mks.length) (hq : H q = some (.lst (ni (srtN l')))) (nq : q ∉ C.own) : ModAt (upd H C.mm (.lst ((C.ma.set i q).map V.ref))) d { C with ma := C.ma.set i q } hol P (mks.set i l') := by
  obtain ⟨⟨a1, a2, a3, a4⟩, ⟨b1, b2, b3⟩, ⟨c1, c2⟩, h1, h2, h3⟩ := M.nds
  have nq2 := nq
  simp only [Mo.own, List.mem_cons, List.mem_append, not_or] at nq2
  obtain ⟨q1, q2, q3, q4, q5⟩ := nq2
  have ms : ∀ a, a ∈ C.ma.set i q → a ∈ C.ma ∨ a = q := fun a h => List.mem_or_eq_of_mem_set h
  refine ⟨?_, ?_, ?_, upd_same, M.lp, by rw [List.length_set, List.length_set]; exact M.lm, fun j a' l e1 e2 => ?_, fun j a' l e1 e2 => ?_, ?_⟩
  · rw [upd_ne (Ne.symm (lst_ne_dk M.mm M.d))]; exact M.d
  · rw [upd_ne a2]; exact M.hl
  · rw [upd_ne b1]; exact M.pp
  · rw [upd_ne (fun e => c1 (by rw [← e]; exact List.mem_of_getElem? e1))]
    exact M.pa j a' l e1 e2
  · have e1 : (C.ma.set i q)[j]? = some a' := e1
    by_cases e : i = j
    · subst e
      rw [List.getElem?_set_self (by rw [M.lm]; exact hi)] at e1
      rw [List.getElem?_set_self hi] at e2
      cases e1
      cases e2
      rw [upd_ne q3]
      exact hq
    · rw [List.getElem?_set_ne e] at e1 e2
      rw [upd_ne (fun e => c2 (by rw [← e]; exact List.mem_of_getElem? e1))]
      exact M.ma j a' l e1 e2
  · show (C.hl :: C.pp :: C.mm :: (C.pa ++ C.ma.set i q)).Nodup
    have nds : (C.ma.set i q).Nodup := nodup_set h2 q5
    simp only [List.nodup_cons, List.mem_cons, List.mem_append, not_or]
    refine ⟨⟨a1, a2, a3, fun z => (ms _ z).elim a4 (Ne.symm q1)⟩, ⟨b1, b2, fun z => (ms _ z).elim b3 (Ne.symm q2)⟩, ⟨c1, fun z => (ms _ z).elim c2 (Ne.symm q3)⟩, List.nodup_append.mpr ⟨h1, nds, fun a ha b hb e => ?_⟩⟩
    subst e
    rcases ms _ hb with z | z
    · exact h3 a ha z
    · exact q4 (by rw [← z]; exact ha)
end
theorem take_getD {l : List Nat} {k : Nat} (h : k < l.length) : l.take (k + 1) = l.take k ++ [l.getD k 0] := by
  rw [List.take_add_one, List.getD_eq_getElem?_getD, List.getElem?_eq_getElem h]
  rfl
def setMarkL (i j g : Nat) (l : List Nat) : List Nat := if g = 0 then stripL j l else giveL i j l
theorem strip_app (j : Nat) (a b : List Nat) : stripL j (a ++ b) = stripL j a ++ stripL j b := List.filter_append ..
theorem strip_one (j m : Nat) : stripL j [m] = if m = j then [] else [m] := by
  unfold stripL
  by_cases h : m = j
  · rw [if_pos h, List.filter_cons_of_neg (by rw [decide_eq_true h]; decide)]
    rfl
  · rw [if_neg h, List.filter_cons_of_pos (by rw [decide_eq_false h]; decide)]
    rfl
theorem strip_len (j : Nat) (a : List Nat) : (stripL j a).length ≤ a.length := List.length_filter_le ..
/-- the law's marks are the sorted ones of the tree's -/
theorem marks_srt {l : List Nat} {i j g : Nat} (nd : l.Nodup) (hi : i ≠ 0) (hg : g ≤ 1) : srtN (stripL j (srtN l) ++ List.replicate g j) = srtN (setMarkL i j g l) := by
  refine srt_uniq (srtN_pw _) (srtN_pw _) ((srtN_perm _).trans (List.Perm.trans ?_ (srtN_perm _).symm))
  have p1 : (stripL j (srtN l)).Perm (stripL j l) := (srtN_perm l).filter _
  unfold setMarkL
  by_cases g0 : g = 0
  · rw [if_pos g0, g0, List.replicate_zero, List.append_nil]
    exact p1
  · have g1 : g = 1 := by omega
    rw [if_neg g0, g1]
    refine (p1.append_right _).trans ?_
    unfold giveL
    by_cases h : j ∈ l
    · rw [if_pos (.inr h)]
      refine (List.perm_ext_iff_of_nodup ?_ nd).mpr fun z => ?_
      · refine List.nodup_append.mpr ⟨nd.filter _, by simp, fun a ha b hb e => ?_⟩
        have hb : b = j := by simpa using hb
        have := (List.mem_filter.mp ha).2
        rw [e, hb] at this
        simp at this
      · rw [List.mem_append]
        unfold stripL
        rw [List.mem_filter]
        constructor
        · rintro (k | k)
          · exact k.1
          · rw [show z = j by simpa using k]
            exact h
        · intro k
          by_cases e : z = j
          · exact .inr (by simp [e])
          · exact .inl ⟨k, by simp [e]⟩
    · rw [if_neg (fun k => k.elim hi h)]
      have : stripL j l = l := List.filter_eq_self.mpr fun a ha => by
        rw [decide_eq_false (fun z => h (by rw [← z]; exact ha))]
        rfl
      rw [this]
      exact List.Perm.refl _
theorem rep_flat1 (g j : Nat) : (List.replicate ((g : Nat) : Int).toNat [V.int (j : Nat)]).flatten = ni (List.replicate g j) := by
  rw [Int.toNat_natCast, ni, List.map_replicate]
  induction g with
  | zero => rfl
  | succ k ih => rw [List.replicate_succ, List.flatten_cons, ih, List.replicate_succ]; rfl
theorem ni_int (l : List Nat) : ni l = (l.map fun n => ((n : Nat) : Int)).map V.int := by
  rw [List.map_map]
  rfl
theorem ni_app (a b : List Nat) : ni (a ++ b) = ni a ++ ni b := List.map_append
theorem ni0 : ([V.int 0] : List V) = ni [0] := rfl
theorem ni1 (n : Nat) : ([V.int (n : Nat)] : List V) = ni [n] := rfl
theorem chain_first {bes : List Nat} {f : Nat} {l : List Nat} (h : Chain bes f l) : (l ++ [0]).getD 0 0 = f := by
  cases l with
  | nil =>
    have h : f = 0 := h
    rw [h]
    rfl
  | cons p l => exact h.1.symm
theorem getD_mid {a c : List Nat} {i : Nat} : (a ++ i :: c ++ [0]).getD (a.length + 1) 0 = (c ++ [0]).getD 0 0 := by
  rw [List.getD_eq_getElem?_getD, List.getD_eq_getElem?_getD, List.append_assoc, List.getElem?_append_right (by omega)]
  rw [show a.length + 1 - a.length = 1 by omega]
  rfl
theorem rows_step {hol : List Nat} {n i : Nat} (hg : hol.getD (i + 1) 0 ≤ n) : (((List.range (n + 1)).map fun h => (List.range' 1 i).filter fun t => decide (hol.getD t 0 = h)).set (hol.getD (i + 1) 0) ((((List.range (n + 1)).map fun h => (List.range' 1 i).filter fun t => decide (hol.getD t 0 = h)).getD (hol.getD (i + 1) 0) []) ++ [i + 1])) = (List.range (n + 1)).map fun h => (List.range' 1 (i + 1)).filter fun t => decide (hol.getD t 0 = h) := by
  have e0 : ((List.range (n + 1)).map fun h => (List.range' 1 i).filter fun t => decide (hol.getD t 0 = h)).getD (hol.getD (i + 1) 0) [] = (List.range' 1 i).filter fun t => decide (hol.getD t 0 = hol.getD (i + 1) 0) := by
    rw [List.getD_eq_getElem?_getD, List.getElem?_map, List.getElem?_range (by omega)]
    rfl
  rw [e0]
  refine List.ext_getElem (by simp) fun j h1 h2 => ?_
  have hj : j < n + 1 := by simpa using h2
  rw [List.getElem_set, List.getElem_map, List.getElem_map, List.getElem_range, List.range'_concat, List.filter_append, show 1 + 1 * i = i + 1 by omega]
  by_cases e : hol.getD (i + 1) 0 = j
  · rw [if_pos e, List.filter_cons_of_pos (by rw [decide_eq_true e]), e]
    rfl
  · rw [if_neg e, List.filter_cons_of_neg (by rw [decide_eq_false e]; decide)]
    simp
theorem lcV {K : PySem.W.Frag} {a : Addr} {xs : List V} {g : TG} {tt : TT} {te : TE} {vs : List Nat} {σ : L2.St} {H : Hp} {Q : VK} {j : Nat} (F : Nat → List V) (hv : σ[j]? = some (some (.ref a))) (hq : H a = some (.lst xs))
    (hs : ∀ D, H D = none → ∀ i x H', xs[i]? = some x → LcP H D F i H' → g x (wipe σ vs) H' fun σ2 H2 => wipe σ2 vs = wipe σ vs ∧ tt σ2 H2 fun b H3 =>
      if b = true then te σ2 H3 fun y H4 => ∃ acc, H4 D = some (.lst acc) ∧ acc.length < sizeLine ∧ LcP H D F (i + 1) (upd H4 D (.lst (acc ++ [y]))) else LcP H D F (i + 1) H3)
    (hd : ∀ D H', H D = none → Same H H' → H' D = some (.lst ((List.range xs.length).map F).flatten) → Q (.ref D) H') : tLc (iList K (tVar j)) g tt te vs σ H Q :=
  ⟨_, hv, a, rfl, ⟨_, .inl (.inl hq)⟩, fun D nD => lcL F nD hq (hs D nD) (fun H' => hd D H' nD)⟩
/-- a list of lists of numbers, all of it made since H0 -/
structure Rows (H0 H : Hp) (D : Addr) (as : List Addr) (ls : List (List Nat)) : Prop where
  h : H D = some (.lst (as.map V.ref))
  la : as.length = ls.length
  row : ∀ (j : Nat) (a : Addr) (l : List Nat), as[j]? = some a → ls[j]? = some l → H a = some (.lst (ni l))
  nd : (D :: as).Nodup
  fr : ∀ a ∈ D :: as, H0 a = none
  sm : Same H0 H
section
variable {H0 H H1 : Hp} {D : Addr} {as : List Addr} {ls : List (List Nat)}
theorem Rows.nil (nD : H0 D = none) : Rows H0 (upd H0 D (.lst [])) D [] [] := ⟨upd_same, rfl, fun j a l e => (by cases e), by simp, fun a ha => by rw [List.mem_singleton.mp ha]; exact nD, same_new nD⟩
theorem Rows.then (R : Rows H0 H D as ls) (s : Same H H1) : Rows H0 H1 D as ls := ⟨s _ _ R.h, R.la, fun j a l e1 e2 => s _ _ (R.row j a l e1 e2), R.nd, R.fr, R.sm.trans s⟩
theorem Rows.some (R : Rows H0 H D as ls) {a : Addr} (h : a ∈ D :: as) : ∃ xs, H a = some (.lst xs) := by
  rcases List.mem_cons.mp h with rfl | h
  · exact ⟨_, R.h⟩
  · obtain ⟨j, hj⟩ := List.getElem?_of_mem h
    have := (List.getElem?_eq_some_iff.mp hj).1
    exact ⟨_, R.row j a _ hj (List.getElem?_eq_getElem (by rw [← R.la]; exact this))⟩
theorem Rows.push (R : Rows H0 H D as ls) (s : Same H H1) {a : Addr} {l : List Nat} (ha : H1 a = .some (.lst (ni l))) (na : H a = none) : Rows H0 (upd H1 D (.lst (as.map V.ref ++ [V.ref a]))) D (as ++ [a]) (ls ++ [l]) := by
  have nin : a ∉ D :: as := fun z => by
    obtain ⟨xs, e⟩ := R.some z
    rw [na] at e
    cases e
  have nD := List.nodup_cons.mp R.nd
  have na0 : H0 a = none := R.sm.free na
  have aD : a ≠ D := fun e => nin (by rw [e]; exact List.mem_cons_self)
  refine ⟨by rw [upd_same, List.map_append]; rfl, by rw [List.length_append, List.length_append, R.la]; rfl, fun j b m e1 e2 => ?_, ?_, fun b hb => ?_, Same.put (R.sm.trans s) (R.fr D List.mem_cons_self)⟩
  · by_cases hj : j < as.length
    · rw [List.getElem?_append_left hj] at e1
      rw [List.getElem?_append_left (by rw [← R.la]; exact hj)] at e2
      rw [upd_ne (fun e => nD.1 (by rw [← e]; exact List.mem_of_getElem? e1))]
      exact s _ _ (R.row j b m e1 e2)
    · have hj2 := (List.getElem?_eq_some_iff.mp e1).1
      rw [List.length_append, List.length_singleton] at hj2
      have ej : j = as.length := by omega
      rw [ej, List.getElem?_append_right (Nat.le_refl _), Nat.sub_self] at e1
      rw [ej, R.la, List.getElem?_append_right (Nat.le_refl _), Nat.sub_self] at e2
      cases e1
      cases e2
      rw [upd_ne aD]
      exact ha
  · rw [← List.cons_append]
    exact List.nodup_append.mpr ⟨R.nd, by simp, fun x hx y hy e => nin (by rw [← List.mem_singleton.mp hy, ← e]; exact hx)⟩
  · rcases List.mem_cons.mp hb with rfl | hb
    · exact R.fr _ List.mem_cons_self
    · rcases List.mem_append.mp hb with h | h
      · exact R.fr b (List.mem_cons_of_mem _ h)
      · rw [List.mem_singleton.mp h]
        exact na0
theorem Rows.set (R : Rows H0 H D as ls) {j : Nat} {a : Addr} (ha : as[j]? = .some a) (l' : List Nat) : Rows H0 (upd H a (.lst (ni l'))) D as (ls.set j l') := by
  have nD := List.nodup_cons.mp R.nd
  have hm := List.mem_of_getElem? ha
  have hj := (List.getElem?_eq_some_iff.mp ha).1
  refine ⟨by rw [upd_ne (fun e => nD.1 (by rw [e]; exact hm))]; exact R.h, by rw [List.length_set]; exact R.la, fun i b m e1 e2 => ?_, R.nd, R.fr, Same.put R.sm (R.fr a (List.mem_cons_of_mem _ hm))⟩
  by_cases e : j = i
  · subst e
    rw [ha] at e1
    cases e1
    rw [List.getElem?_set_self (by rw [← R.la]; exact hj)] at e2
    cases e2
    exact upd_same
  · rw [List.getElem?_set_ne e] at e2
    rw [upd_ne (fun z => by
      subst z
      exact e ((List.getElem?_inj hj nD.2).mp (ha.trans e1.symm)))]
    exact R.row i b m e1 e2
theorem Rows.cons {Ha Hc : Hp} {q e0 : Addr} {l0 : List Nat} (R : Rows H Hc D as ls) (s : Same Ha H) (he : H e0 = .some (.lst (ni l0))) (ne : Ha e0 = none) (nq : Hc q = none) : Rows Ha (upd Hc q (.lst (V.ref e0 :: as.map V.ref))) q (e0 :: as) (l0 :: ls) := by
  have sq := same_new (o := .lst (V.ref e0 :: as.map V.ref)) nq
  have nD := List.nodup_cons.mp R.nd
  have e0n : e0 ∉ as := fun z => by
    have := R.fr e0 (List.mem_cons_of_mem _ z)
    rw [he] at this
    cases this
  have qn : q ∉ e0 :: as := fun z => by
    rcases List.mem_cons.mp z with e | z
    · rw [e, R.sm _ _ he] at nq
      cases nq
    · obtain ⟨xs, h⟩ := R.some (List.mem_cons_of_mem D z)
      rw [nq] at h
      cases h
  refine ⟨by rw [upd_same]; rfl, by rw [List.length_cons, List.length_cons, R.la], fun j a l e1 e2 => ?_, List.nodup_cons.mpr ⟨qn, List.nodup_cons.mpr ⟨e0n, nD.2⟩⟩, fun a ha => ?_, (s.trans R.sm).trans sq⟩
  · cases j with
    | zero =>
      cases e1
      cases e2
      exact sq _ _ (R.sm _ _ he)
    | succ j => exact sq _ _ (R.row j a l e1 e2)
  · rcases List.mem_cons.mp ha with rfl | ha
    · exact s.free (R.sm.free nq)
    · rcases List.mem_cons.mp ha with rfl | ha
      · exact ne
      · exact s.free (R.fr a (List.mem_cons_of_mem _ ha))
theorem Rows.dk (R : Rows H0 H D as ls) {d : Addr} {kvs kvs' : List (Key × V)} (hd : H d = .some (.dK kvs)) (nd : H0 d = none) : Rows H0 (upd H d (.dK kvs')) D as ls :=
  ⟨by rw [upd_ne (lst_ne_dk R.h hd)]; exact R.h, R.la, fun j a l e1 e2 => by
    have h := R.row j a l e1 e2
    rw [upd_ne (lst_ne_dk h hd)]
    exact h, R.nd, R.fr, Same.put R.sm nd⟩
theorem Rows.at_ (R : Rows H0 H D as ls) {i : Nat} (h : i < ls.length) : ∃ a, as[i]? = .some a ∧ atI (as.map V.ref) (i : Nat) = .some (.ref a) ∧ H a = .some (.lst (ni (ls.getD i []))) := by
  have hl : i < as.length := by rw [R.la]; exact h
  refine ⟨_, List.getElem?_eq_getElem hl, atI_get (by rw [List.getElem?_map, List.getElem?_eq_getElem hl]; rfl), ?_⟩
  rw [R.row i _ _ (List.getElem?_eq_getElem hl) (List.getElem?_eq_getElem h), List.getD_eq_getElem?_getD, List.getElem?_eq_getElem h]
  rfl
end
theorem mk_mod {A B h : Hp} {d hl pp mm : Addr} {pa ma : List Addr} {hol : List Nat} {P mks ms : List (List Nat)} (hd : h d = some (.dK (modKV (hol.length - 1) ⟨hl, pp, mm, pa, ma⟩))) (hh : h hl = some (.lst (ni hol))) (R1 : Rows A h pp pa P) (R2 : Rows B h mm ma ms) (e : ms = mks.map srtN) (n1 : hl ∉ pp :: pa) (n2 : hl ∉ mm :: ma) (n3 : ∀ a ∈ pp :: pa, a ∉ mm :: ma) : ModAt h d ⟨hl, pp, mm, pa, ma⟩ hol P mks := by
  subst e
  refine ⟨hd, hh, R1.h, R2.h, R1.la, by rw [R2.la, List.length_map], R1.row, fun i a l e1 e2 => R2.row i a _ e1 (by rw [List.getElem?_map, e2]; rfl), ?_⟩
  have m1 := List.nodup_cons.mp R1.nd
  have m2 := List.nodup_cons.mp R2.nd
  simp only [List.mem_cons, not_or] at n1 n2
  unfold Mo.own
  simp only [List.nodup_cons, List.mem_cons, List.mem_append, not_or]
  have n30 := n3 pp List.mem_cons_self
  simp only [List.mem_cons, not_or] at n30
  refine ⟨⟨n1.1, n2.1, n1.2, n2.2⟩, ⟨n30.1, m1.1, n30.2⟩, ⟨fun z => n3 mm (List.mem_cons_of_mem _ z) List.mem_cons_self, m2.1⟩, List.nodup_append.mpr ⟨m1.2, m2.2, fun a ha b hb e => n3 a (List.mem_cons_of_mem _ ha) (by rw [e]; exact List.mem_cons_of_mem _ hb)⟩⟩
/-- a tree as the law keeps it -/
structure Good (T : Tr) (P : List (List Nat)) : Prop where
  ok : TrOk T
  fo : Forest T P
  m0 : T.mks.getD 0 [] = []
def Dis (a b : List Addr) : Prop := ∀ z ∈ a, z ∉ b
def spModel : Sp := fun vs H Q _ => ∃ (q : Addr) (as : List Addr) (rs : List (Nat × List Nat)) (n : Nat), vs = [.ref q] ∧ PairsAt H q as rs ∧ PairsOk rs n ∧
  ∀ d C H', Same H H' → (∀ a ∈ d :: C.own, H a = none) → ModAt H' d C (0 :: rs.map fun r => r.1) (rows0 rs n) (mks0 rs) → Q (.ref d) H'
def spTwin : Sp := fun vs H Q _ => ∃ (d0 : Addr) (C0 : Mo) (hol : List Nat) (P mks : List (List Nat)), vs = [.ref d0] ∧ ModAt H d0 C0 hol P mks ∧ P.length ≤ 61 ∧ mks.length ≤ 61 ∧
  ∀ d C H', Same H H' → (∀ a ∈ d :: C.own, H a = none) → ModAt H' d C hol P mks → Q (.ref d) H'
def spInside : Sp := fun vs H Q _ => ∃ (d : Addr) (C : Mo) (T : Tr) (P : List (List Nat)) (i j : Nat), vs = [.ref d, .int (i : Nat), .int (j : Nat)] ∧ ModAt H d C T.hol P T.mks ∧ TrOk T ∧ i ≤ T.n ∧ j ≤ T.n ∧ Q (.bl (inside T.hol i T.n (T.hol.getD j 0))) H
def spMoved : Sp := fun vs H Q _ => ∃ (d : Addr) (C : Mo) (T : Tr) (P : List (List Nat)) (i h : Nat), vs = [.ref d, .int (i : Nat), .int (h : Nat)] ∧ ModAt H d C T.hol P T.mks ∧ TrOk T ∧ Forest T P ∧ i ≤ T.n ∧ h ≤ T.n ∧
  (stays T i h = true → Q .non H) ∧ (stays T i h = false → ∀ H', Kf (fun a => a ∈ C.own) H H' → ModAt H' d C (T.hol.set i h) (movedP P (T.hol.getD i 0) h i) T.mks → Q .non H')
def spMarked : Sp := fun vs H Q _ => ∃ (d : Addr) (C : Mo) (T : Tr) (P : List (List Nat)) (i j g : Nat), vs = [.ref d, .int (i : Nat), .int (j : Nat), .int (g : Nat)] ∧ ModAt H d C T.hol P T.mks ∧ Good T P ∧ i ≤ T.n ∧ j < 32 ∧ g ≤ 1 ∧
  ∀ C' H', Kf (fun a => a ∈ C.own) H H' → (∀ a ∈ C'.own, a ∈ C.own ∨ H a = none) → ModAt H' d C' T.hol P (T.mks.set i (setMarkL i j g (T.mks.getD i []))) → Q .non H'
def spLBeside : Sp := fun vs H Q _ => ∃ (d : Addr) (C : Mo) (T : Tr) (P : List (List Nat)) (i : Nat), vs = [.ref d, .int (i : Nat)] ∧ ModAt H d C T.hol P T.mks ∧ Good T P ∧ i ≤ T.n ∧ ∀ H', Same H H' → Q (.int (T.bes.getD i 0 : Nat)) H'
def spLParts : Sp := fun vs H Q _ => ∃ (d : Addr) (C : Mo) (T : Tr) (P : List (List Nat)) (i : Nat), vs = [.ref d, .int (i : Nat)] ∧ ModAt H d C T.hol P T.mks ∧ Good T P ∧ i ≤ T.n ∧ ∀ p H', Same H H' → H p = none → H' p = some (.lst (ni (partsOf P i))) → Q (.ref p) H'
def spLPlace : Sp := fun vs H Q _ => ∃ (d : Addr) (C : Mo) (T : Tr) (P : List (List Nat)) (i : Nat), vs = [.ref d, .int (i : Nat)] ∧ ModAt H d C T.hol P T.mks ∧ Good T P ∧ i ≤ T.n ∧ Q (.int (topN T.hol T.n i : Nat)) H
def spLTold : Sp := fun vs H Q _ => ∃ (d : Addr) (C : Mo) (T : Tr) (P : List (List Nat)), vs = [.ref d] ∧ ModAt H d C T.hol P T.mks ∧ Good T P ∧ ∀ p H', Same H H' → H p = none → ToldAt H' p (rowsT T) → Q (.ref p) H'
/-- data that repr shows -/
structure Sho (K : PySem.W.Frag) (H : Hp) (v : V) (d : PyData) : Prop where
  dp : Dp K H v d
  sh : d.showable = true
  nd : d.hasDict = false
  dep : d.depth ≤ 50
  len : d.shown.length ≤ sizeLine
structure OkD (w k : Nat) (d : PyData) : Prop where
  sh : d.showable = true
  nd : d.hasDict = false
  ls : d.leavesShort 13 = true
  wt : d.weight ≤ w
  dp : d.depth ≤ k
theorem OkD.sho {K : PySem.W.Frag} {H : Hp} {v : V} {d : PyData} {w k : Nat} (h : OkD w k d) (dp : Dp K H v d) (hw : w ≤ 2 ^ 20) (hk : k ≤ 50) : Sho K H v d :=
  ⟨dp, h.sh, h.nd, Nat.le_trans h.dp hk, PyData.shown_fits (by decide) (by decide) h.ls (Nat.le_trans h.wt hw)⟩
theorem okD_int {i : Int} (h : i.natAbs < 10 ^ 6) : OkD 21 0 (.int i) := by
  have l20 : i.natAbs.log2 < 20 := PySem.Flt.log2_lt_of (by decide) (Nat.lt_trans h (by decide : 10 ^ 6 < 2 ^ 20))
  refine ⟨decide_eq_true (Nat.lt_trans l20 (by decide)), rfl, ?_, ?_, by simp [PyData.depth]⟩
  · simp only [PyData.leavesShort, decide_eq_true_eq]
    exact PyData.shown_int_le (Nat.lt_trans h (by decide))
  · simp only [PyData.weight]
    split <;> omega
theorem okD_bool (b : Bool) : OkD 1 0 (.bool b) := ⟨rfl, rfl, rfl, by simp [PyData.weight], by simp [PyData.depth]⟩
theorem okD_all {w k : Nat} : ∀ {ds : List PyData}, (∀ d ∈ ds, OkD w k d) → PyData.showableAll ds = true ∧ PyData.hasDictAll ds = false ∧ PyData.leavesShortAll 13 ds = true ∧ PyData.weightAll ds ≤ (w + 1) * ds.length ∧ PyData.depthAll ds ≤ k
  | [], _ => ⟨rfl, rfl, rfl, Nat.zero_le _, Nat.zero_le _⟩
  | d :: ds, h => by
    have hd := h d List.mem_cons_self
    obtain ⟨h1, h2, h3, h4, h5⟩ := okD_all fun x hx => h x (List.mem_cons_of_mem _ hx)
    refine ⟨by simp [PyData.showableAll, hd.sh, h1], by simp [PyData.hasDictAll, hd.nd, h2], by simp [PyData.leavesShortAll, hd.ls, h3], ?_, ?_⟩
    · have := hd.wt
      rw [PyData.weightAll, List.length_cons, Nat.mul_add]
      omega
    · have := hd.dp
      rw [PyData.depthAll]
      omega
theorem okD_tup {w k : Nat} {ds : List PyData} (h : ∀ d ∈ ds, OkD w k d) : OkD ((w + 1) * ds.length + 1) (k + 1) (.tuple ds) := by
  obtain ⟨h1, h2, h3, h4, h5⟩ := okD_all h
  refine ⟨by simp [PyData.showable, h1], by simp [PyData.hasDict, h2], by simp [PyData.leavesShort, h3], ?_, ?_⟩
  · simp only [PyData.weight]
    omega
  · simp only [PyData.depth]
    omega
theorem okD_lst {w k : Nat} {ds : List PyData} (h : ∀ d ∈ ds, OkD w k d) : OkD ((w + 1) * ds.length + 1) (k + 1) (.list ds) := by
  obtain ⟨h1, h2, h3, h4, h5⟩ := okD_all h
  refine ⟨by simp [PyData.showable, h1], by simp [PyData.hasDict, h2], by simp [PyData.leavesShort, h3], ?_, ?_⟩
  · simp only [PyData.weight]
    omega
  · simp only [PyData.depth]
    omega
theorem OkD.mono {w w' k k' : Nat} {d : PyData} (h : OkD w k d) (hw : w ≤ w') (hk : k ≤ k') : OkD w' k' d := ⟨h.sh, h.nd, h.ls, Nat.le_trans h.wt hw, Nat.le_trans h.dp hk⟩
theorem okD_ints {l : List Nat} {n : Nat} (hl : l.length ≤ n) (h : ∀ m ∈ l, m < 10 ^ 6) : OkD (22 * n + 1) 1 (.tuple (l.map fun m => .int ((m : Nat) : Int))) := by
  have := okD_tup (w := 21) (k := 0) (ds := l.map fun m => PyData.int ((m : Nat) : Int)) fun d hd => by
    obtain ⟨m, hm, rfl⟩ := List.mem_map.mp hd
    have := h m hm
    exact okD_int (by omega)
  rw [List.length_map] at this
  exact this.mono (by omega) (Nat.le_refl _)
theorem okD_lints {l : List Nat} {n : Nat} (hl : l.length ≤ n) (h : ∀ m ∈ l, m < 10 ^ 6) : OkD (22 * n + 1) 1 (.list (l.map fun m => .int ((m : Nat) : Int))) := by
  have := okD_lst (w := 21) (k := 0) (ds := l.map fun m => PyData.int ((m : Nat) : Int)) fun d hd => by
    obtain ⟨m, hm, rfl⟩ := List.mem_map.mp hd
    have := h m hm
    exact okD_int (by omega)
  rw [List.length_map] at this
  exact this.mono (by omega) (Nat.le_refl _)
theorem okD_row {r : TRow} (h0 : r.1.length ≤ 40) (h1 : ∀ m ∈ r.1, m < 32) (h2 : r.2.1 ≤ 60) (h3 : r.2.2.1 ≤ 60) (h4 : r.2.2.2 ≤ 60) : OkD 4000 2 (rowD r) := by
  refine (okD_tup (w := 881) (k := 1) (ds := [.tuple (r.1.map fun n => .int ((n : Nat) : Int)), .int (r.2.1 : Nat), .int (r.2.2.1 : Nat), .int (r.2.2.2 : Nat)]) fun d hd => ?_).mono (by show (881 + 1) * 4 + 1 ≤ 4000; decide) (by decide)
  simp only [List.mem_cons, List.not_mem_nil, or_false] at hd
  rcases hd with rfl | rfl | rfl | rfl
  · exact (okD_ints h0 fun m hm => by have := h1 m hm; omega).mono (by omega) (Nat.le_refl _)
  · exact (okD_int (by omega)).mono (by omega) (Nat.zero_le _)
  · exact (okD_int (by omega)).mono (by omega) (Nat.zero_le _)
  · exact (okD_int (by omega)).mono (by omega) (Nat.zero_le _)
theorem okD_told {T : Tr} (ok : TrOk T) : OkD 250000 3 (toldD (rowsT T)) := by
  have n60 := ok.n60
  refine (okD_tup (w := 4000) (k := 2) (ds := (rowsT T).map rowD) fun d hd => ?_).mono ?_ (by decide)
  · obtain ⟨r, hr, rfl⟩ := List.mem_map.mp hd
    obtain ⟨t, ht, rfl⟩ := List.mem_map.mp hr
    have ht := List.mem_range'_1.mp ht
    have hm : T.mks.getD t [] ∈ T.mks := by
      rw [List.getD_eq_getElem?_getD, List.getElem?_eq_getElem (by rw [ok.lm]; omega)]
      exact List.getElem_mem _
    have v := ok.vm _ hm
    have l32 := nodup_lt v.1 v.2
    refine okD_row ?_ (fun m hm => v.2 m ((srtN_perm _).mem_iff.mp hm)) (Nat.le_trans (getD_le ok.vh) n60) (Nat.le_trans (getD_le ok.vb) n60) (Nat.le_trans (getD_le ok.vf) n60)
    show (srtN _).length ≤ 40
    rw [(srtN_perm _).length_eq]
    omega
  · rw [List.length_map, rowsT, List.length_map, List.length_range']
    omega
theorem TreeAt.cong {K : PySem.W.Frag} {H H' : Hp} {x : Addr} {A : TrO} {T : Tr} (L : TreeAt K H x A T) (h : ∀ a ∈ x :: A.own, ∀ o, H a = some o → H' a = some o) : TreeAt K H' x A T where
  ins := let ⟨dx, hx⟩ := L.ins; ⟨dx, h _ List.mem_cons_self _ hx⟩
  hol := h _ (by simp [TrO.own]) _ L.hol
  bes := h _ (by simp [TrO.own]) _ L.bes
  fir := h _ (by simp [TrO.own]) _ L.fir
  num := h _ (by simp [TrO.own]) _ L.num
  mr := h _ (by simp [TrO.own]) _ L.mr
  dl := L.dl
  ds := fun i d l e1 e2 => h _ (by have := List.mem_of_getElem? e1; simp [TrO.own, this]) _ (L.ds i d l e1 e2)
  nd := L.nd
  ne := L.ne
theorem TreeAt.kp {K : PySem.W.Frag} {b : Addr} {H H' : Hp} {x : Addr} {A : TrO} {T : Tr} (L : TreeAt K H x A T) (k : Kp b H H') (n : b ∉ x :: A.own) : TreeAt K H' x A T := L.cong fun a ha o h => k.keep a o (fun e => n (by rw [← e]; exact ha)) h
theorem TreeAt.kf {K : PySem.W.Frag} {F : Addr → Prop} {H H' : Hp} {x : Addr} {A : TrO} {T : Tr} (L : TreeAt K H x A T) (k : Kf F H H') (n : ∀ a ∈ x :: A.own, ¬ F a) : TreeAt K H' x A T := L.cong fun a ha o h => k a o (n a ha) h
theorem ModAt.kp' {b : Addr} {H H' : Hp} {d : Addr} {C : Mo} {hol : List Nat} {P mks : List (List Nat)} (M : ModAt H d C hol P mks) (k : Kp b H H') (n : b ∉ d :: C.own) : ModAt H' d C hol P mks := M.cong fun a ha o h => k.keep a o (fun e => n (by rw [← e]; exact ha)) h
theorem parts_chain {T : Tr} {P : List (List Nat)} (F : Forest T P) {i : Nat} (hi : i ≤ T.n) : Chain T.bes (T.fir.getD i 0) (partsOf P i) := by
  unfold partsOf
  by_cases g : i = 0
  · rw [if_pos g, g]
    exact F.f0
  · rw [if_neg g]
    exact F.ch i (by omega) hi
theorem parts_ok {T : Tr} {P : List (List Nat)} (ok : TrOk T) (F : Forest T P) {i : Nat} (hi : i ≤ T.n) : (partsOf P i).length ≤ 61 ∧ ∀ z ∈ partsOf P i, z ≤ 60 := by
  have n60 := ok.n60
  have fm : ∀ z ∈ partsOf P i, z ≤ T.n := fun z hz => by
    unfold partsOf at hz
    by_cases g : i = 0
    · rw [if_pos g] at hz
      cases hz
    · rw [if_neg g] at hz
      exact ((F.mem i z hi).mp hz).2.1
  have fn : (partsOf P i).Nodup := by
    unfold partsOf
    by_cases g : i = 0
    · rw [if_pos g]
      exact .nil
    · rw [if_neg g]
      exact nodup_row F i
  have := nodup_lt fn (n := 61) fun z hz => by have := fm z hz; omega
  exact ⟨this, fun z hz => by have := fm z hz; omega⟩
def dueD (T : Tr) (P : List (List Nat)) (i : Nat) : PyData := .list [.int (T.hol.getD i 0 : Nat), .int (T.hol.getD i 0 : Nat), .int (T.fir.getD i 0 : Nat), .int (T.bes.getD i 0 : Nat), .int (topN T.hol T.n i : Nat), .tuple ((partsOf P i).map fun n => .int ((n : Nat) : Int))]
theorem topN_le {hol : List Nat} {n : Nat} (h : ∀ v ∈ hol, v ≤ n) : ∀ k i, i ≤ n → topN hol k i ≤ n
  | 0, i, hi => hi
  | k + 1, i, hi => by
    unfold topN
    split
    · exact hi
    · exact topN_le h k _ (getD_le h)
theorem okD_due {T : Tr} {P : List (List Nat)} (G : Good T P) {i : Nat} (hi : i ≤ T.n) : OkD 10000 2 (dueD T P i) := by
  have ok := G.ok
  have n60 := ok.n60
  have h1 := getD_le (i := i) ok.vh
  have h2 := getD_le (i := i) ok.vf
  have h3 := getD_le (i := i) ok.vb
  have h4 := topN_le ok.vh T.n i hi
  obtain ⟨h5, h6⟩ := parts_ok ok G.fo hi
  have i0 : ∀ m : Nat, m ≤ T.n → OkD 1400 1 (.int (m : Nat)) := fun m hm => (okD_int (by omega)).mono (by omega) (Nat.zero_le _)
  refine (okD_lst (w := 1400) (k := 1) fun d hd => ?_).mono (by show (1400 + 1) * 6 + 1 ≤ 10000; decide) (by decide)
  simp only [List.mem_cons, List.not_mem_nil, or_false] at hd
  rcases hd with rfl | rfl | rfl | rfl | rfl | rfl
  · exact i0 _ h1
  · exact i0 _ h1
  · exact i0 _ h2
  · exact i0 _ h3
  · exact i0 _ h4
  · exact (okD_ints h5 fun m hm => by have := h6 m hm; omega).mono (by omega) (Nat.le_refl _)
theorem dp_due {K : PySem.W.Frag} {H : Hp} {T : Tr} {P : List (List Nat)} {i : Nat} {p q : Addr} (hp : H p = some (.lst [.int (T.hol.getD i 0 : Nat), .int (T.hol.getD i 0 : Nat), .int (T.fir.getD i 0 : Nat), .int (T.bes.getD i 0 : Nat), .int (topN T.hol T.n i : Nat), .ref q])) (hq : H q = some (.tup (ni (partsOf P i)))) : Dp K H (.ref p) (dueD T P i) :=
  .lst (.inl (.inl hp)) (.cons (.int _) (.cons (.int _) (.cons (.int _) (.cons (.int _) (.cons (.int _) (.cons (.tup (.inl (.inl hq)) (dp_ni _)) .nil))))))
def spLSame (K : PySem.W.Frag) : Sp := fun vs H Q _ => ∃ (b x d : Addr) (A : TrO) (C : Mo) (T : Tr) (P : List (List Nat)), vs = [.ref b, .ref x, .ref d] ∧ Bag H b ∧ TreeAt K H x A T ∧ ModAt H d C T.hol P T.mks ∧ Good T P ∧ b ∉ x :: A.own ∧ b ∉ d :: C.own ∧ ∀ H', Kp b H H' → Q (.bl true) H'
theorem inside_hold {hol : List Nat} {n t : Nat} (n1 : 1 ≤ n) : inside hol (hol.getD t 0) n (hol.getD t 0) = !decide (hol.getD t 0 = 0) := by
  obtain ⟨m, rfl⟩ : ∃ m, n = m + 1 := ⟨n - 1, by omega⟩
  unfold inside
  by_cases h : hol.getD t 0 = 0
  · rw [if_pos h, decide_eq_true h]
    rfl
  · rw [if_neg h, if_pos rfl, decide_eq_false h]
    rfl
/-- a bad argument of a call: what is told -/
def CallBad (H : Hp) (T : Tr) (way : Int) (v w : V) (word : Str) (z : V) : Prop :=
  (0 ≤ way ∧ way < 5 ∧ word = "thing" ∧ z = v ∧ BadN H v 0 T.n) ∨
  (5 ≤ way ∧ way < 7 ∧ word = "thing" ∧ z = v ∧ BadN H v 0 T.n) ∨
  (5 ≤ way ∧ way < 7 ∧ word = "thing" ∧ z = w ∧ (∃ i : Nat, v = .int i ∧ i ≤ T.n) ∧ BadN H w 0 T.n) ∨
  (7 ≤ way ∧ way < 10 ∧ word = "thing" ∧ z = v ∧ BadN H v 0 T.n) ∨
  (7 ≤ way ∧ way < 10 ∧ word = "mark" ∧ z = w ∧ (∃ i : Nat, v = .int i ∧ i ≤ T.n) ∧ BadN H w 0 31)
theorem kb_none_int : kitB "NoneType" "int" = some false := by decide +kernel
theorem kb_str_int : kitB "str" "int" = some false := by decide +kernel
theorem kb_tuple_int : kitB "tuple" "int" = some false := by decide +kernel
theorem shw_big {K : PySem.W.Frag} {H : Hp} : Shw K H (.int (10 ^ Int.toNat 39)) (.int (10 ^ Int.toNat 39)) := ⟨.int _, by decide +kernel, rfl, by decide +kernel, by decide +kernel, by decide +kernel⟩
theorem shw_int {K : PySem.W.Frag} {H : Hp} {i : Int} (h1 : -999999999999 ≤ i) (h2 : i ≤ 999999999999) : Shw K H (.int i) (.int i) := (sm_int h1 h2).shw (.int i) (by decide) (by decide)
theorem shw_non {K : PySem.W.Frag} {H : Hp} : Shw K H .non .none := sm_non.shw .non (by decide) (by decide)
theorem shw_bl {K : PySem.W.Frag} {H : Hp} (b : Bool) : Shw K H (.bl b) (.bool b) := (sm_bl b).shw (.bl b) (by decide) (by decide)
theorem big_no {lo hi : Int} (h : hi ≤ 1000) : ¬ (lo ≤ 10 ^ Int.toNat 39 ∧ (10 : Int) ^ Int.toNat 39 ≤ hi) := fun z => by
  have e : (10 : Int) ^ Int.toNat 39 = 1000000000000000000000000000000000000000 := by decide +kernel
  rw [e] at z
  omega
def toldL (w z : Str) : PyData := .list [.str w, .str z, .bool true]
theorem toldL_shp {w z : Str} (hw : PyData.strOk w = true) (hz : PyData.strOk z = true) : SeqAt.shaped (toldL w z) = true := by
  simp [SeqAt.shaped, toldL, PyData.canLay0, PyData.canLayAll0, PyData.depth, PyData.depthAll, hw, hz]
theorem toldL_eqv {w z : Str} : PyData.eqv (toldL w z) (toldL w z) = true := by
  simp [toldL, PyData.eqv, PyData.eqvAll]
theorem toldL_dp {K : PySem.W.Frag} {H : Hp} {p : Addr} {w z : Str} (h : H p = some (.lst [.str w, .str z, .bl true])) : Dp K H (.ref p) (toldL w z) := .lst (.inl (.inl h)) (.cons (.str _) (.cons (.str _) (.cons (.bl _) .nil)))
theorem TreeAt.kpB {K : PySem.W.Frag} {b : Addr} {H H' : Hp} {x : Addr} {A : TrO} {T : Tr} (L : TreeAt K H x A T) (k : Kp b H H') (n : b ∉ x :: A.own) : TreeAt K H' x A T := L.kp k n
def spLCall (K : PySem.W.Frag) : Sp := fun vs H Q _ => ∃ (x : Addr) (A : TrO) (T : Tr) (P : List (List Nat)) (way : Int) (v w : V) (word : Str) (z : V) (d : PyData), vs = [.ref x, .int way, v, w] ∧ TreeAt K H x A T ∧ Good T P ∧ CallBad H T way v w word z ∧ Shw K H z d ∧
  ∀ p H', Same H H' → H p = none → H' p = some (.lst [.str word, .str d.shown, .bl true]) → Q (.ref p) H'
theorem call_ok {K : PySem.W.Frag} {H : Hp} {Q : VK} {x : Addr} {A : TrO} {T : Tr} {P : List (List Nat)} {way : Int} {v w z : V} {word : Str} {d : PyData} (L : TreeAt K H x A T) (G : Good T P) (cb : CallBad H T way v w word z) (sh : Shw K H z d) (ow : PyData.strOk word = true) (q : ∀ H', Same H H' → Q (.bl true) H') :
    spLCall K [.ref x, .int way, v, w] H (fun p H1 => ∃ x1, Dp K H1 z x1 ∧ x1.showable = true ∧ x1.hasDict = false ∧ x1.depth ≤ 50 ∧ x1.shown.length ≤ sizeLine ∧ 3 ≤ sizeLine ∧ ∀ p2, H1 p2 = none → rEqD K p (.ref p2) (upd H1 p2 (.lst [.str word, .str x1.shown, .bl true])) Q) E0 := by
  refine ⟨x, A, T, P, way, v, w, word, z, d, rfl, L, G, cb, sh, fun p H' s np hp => ?_⟩
  have S1 := sh.same s
  refine ⟨d, S1.dp, S1.sh, S1.nd, S1.dep, S1.len, by decide, fun p2 np2 => ?_⟩
  have s2 := same_new (o := .lst [.str word, .str d.shown, .bl true]) np2
  have os : PyData.strOk d.shown = true := S1.ok
  refine ⟨_, _, toldL_dp (s2 _ _ hp), toldL_dp upd_same, toldL_shp ow os, toldL_shp ow os, ?_⟩
  rw [toldL_eqv]
  exact q _ (s.trans s2)
def spLOdd (K : PySem.W.Frag) : Sp := fun vs H Q _ => ∃ (b : Addr) (n : Nat), vs = [.ref b, .int (n : Nat)] ∧ Bag H b ∧ n ≤ 60 ∧ ∀ v d H', Kp b H H' → BadN H' v 0 n → Shw K H' v d → Q v H'
def spLRef (K : PySem.W.Frag) : Sp := fun vs H Q _ => ∃ (b x : Addr) (A : TrO) (T : Tr) (P : List (List Nat)), vs = [.ref b, .ref x, .int (T.n : Nat)] ∧ Bag H b ∧ TreeAt K H x A T ∧ Good T P ∧ b ∉ x :: A.own ∧ ∀ H', Kp b H H' → Q (.bl true) H'
theorem bagC_kf {F : Addr → Prop} {H H' : Hp} {b c : Addr} (B : BagC H b c) (k : Kf F H H') (hb : ¬ F b) (hc : ¬ F c) : BagC H' b c := by
  obtain ⟨ns, a, r, m, n, h1, h2, h3⟩ := B
  exact ⟨ns, a, r, m, n, k _ _ hb h1, k _ _ hc h2, h3⟩
theorem Kf.mono {F F' : Addr → Prop} {H H' : Hp} (k : Kf F H H') (h : ∀ a, F a → F' a) : Kf F' H H' := fun a o n e => k a o (fun z => n (h a z)) e
theorem kp_kf {b : Addr} {H H' : Hp} (k : Kp b H H') : Kf (fun a => a = b) H H' := fun a o n e => k.keep a o n e
theorem kf_free {F : Addr → Prop} {H H' : Hp} {a : Addr} (k : Kf F H H') (h : F a → ∃ o, H' a = some o) (n : H' a = none) : H a = none := by
  cases e : H a with
  | none => rfl
  | some o =>
    by_cases f : F a
    · obtain ⟨u, hu⟩ := h f
      rw [n] at hu
      cases hu
    · rw [k a o f e] at n
      cases n
theorem allF_ni : ∀ l : List Nat, (ni l).all isF = true
  | [] => rfl
  | _ :: l => allF_ni l
theorem ni_nil {l : List Nat} : ni l = [] ↔ l = [] := by
  cases l <;> simp [ni]
theorem fp_own {A : TrO} {a : Addr} (h : A.fp a) : a ∈ A.own := by
  simp only [TrO.own, List.mem_cons]
  rcases h with h | h | h | h
  · exact .inl h
  · exact .inr (.inr (.inl h))
  · exact .inr (.inr (.inr (.inl h)))
  · exact .inr (.inr (.inr (.inr (.inr h))))
def spLDeed (K : PySem.W.Frag) : Sp := fun vs H Q _ => ∃ (b c x d : Addr) (A : TrO) (C : Mo) (T : Tr) (P : List (List Nat)), vs = [.ref b, .ref x, .ref d] ∧ BagC H b c ∧ TreeAt K H x A T ∧ ModAt H d C T.hol P T.mks ∧ Good T P ∧ Dis [b, c] (x :: A.own) ∧ Dis [b, c] (d :: C.own) ∧ Dis (x :: A.own) (d :: C.own) ∧
  ∀ T' P' C' H', Kf (fun a => a = b ∨ a ∈ A.own ∨ a ∈ C.own) H H' → BagC H' b c → TreeAt K H' x A T' → ModAt H' d C' T'.hol P' T'.mks → Good T' P' → T'.n = T.n → (∀ a ∈ C'.own, a ∈ C.own ∨ H a = none) → Q (.bl true) H'
/-! ### rows of any data -/
mutual
inductive Dv (H : Hp) : V → PyData → Prop
  | non : Dv H .non .none
  | bl (b : Bool) : Dv H (.bl b) (.bool b)
  | int (i : Int) : Dv H (.int i) (.int i)
  | str (x : Str) : Dv H (.str x) (.str x)
  | lst {a : Addr} {xs : List V} {ds : List PyData} : H a = some (.lst xs) → DvAll H xs ds → Dv H (.ref a) (.list ds)
  | tup {a : Addr} {xs : List V} {ds : List PyData} : H a = some (.tup xs) → DvAll H xs ds → Dv H (.ref a) (.tuple ds)
inductive DvAll (H : Hp) : List V → List PyData → Prop
  | nil : DvAll H [] []
  | cons {v : V} {vs : List V} {d : PyData} {ds : List PyData} : Dv H v d → DvAll H vs ds → DvAll H (v :: vs) (d :: ds)
end
mutual
theorem Dv.map {H H' : Hp} (hl : ∀ a xs, H a = some (.lst xs) → H' a = some (.lst xs)) (ht : ∀ a xs, H a = some (.tup xs) → H' a = some (.tup xs)) : ∀ (d : PyData) (v : V), Dv H v d → Dv H' v d
  | .none, _, h => by cases h; exact .non
  | .bool b, _, h => by cases h; exact .bl b
  | .int i, _, h => by cases h; exact .int i
  | .str x, _, h => by cases h; exact .str x
  | .list ds, _, h => by
    cases h with
    | lst h1 h2 => exact .lst (hl _ _ h1) (DvAll.map hl ht ds _ h2)
  | .tuple ds, _, h => by
    cases h with
    | tup h1 h2 => exact .tup (ht _ _ h1) (DvAll.map hl ht ds _ h2)
  | .dict _, _, h => by cases h
theorem DvAll.map {H H' : Hp} (hl : ∀ a xs, H a = some (.lst xs) → H' a = some (.lst xs)) (ht : ∀ a xs, H a = some (.tup xs) → H' a = some (.tup xs)) : ∀ (ds : List PyData) (vs : List V), DvAll H vs ds → DvAll H' vs ds
  | [], _, h => by cases h; exact .nil
  | d :: ds, _, h => by
    cases h with
    | cons h1 h2 => exact .cons (Dv.map hl ht d _ h1) (DvAll.map hl ht ds _ h2)
end
mutual
theorem Dv.dp {K : PySem.W.Frag} {H : Hp} : ∀ (d : PyData) (v : V), Dv H v d → Dp K H v d
  | .none, _, h => by cases h; exact .non
  | .bool b, _, h => by cases h; exact .bl b
  | .int i, _, h => by cases h; exact .int i
  | .str x, _, h => by cases h; exact .str x
  | .list ds, _, h => by
    cases h with
    | lst h1 h2 => exact .lst (.inl (.inl h1)) (DvAll.dp ds _ h2)
  | .tuple ds, _, h => by
    cases h with
    | tup h1 h2 => exact .tup (.inl (.inl h1)) (DvAll.dp ds _ h2)
  | .dict _, _, h => by cases h
theorem DvAll.dp {K : PySem.W.Frag} {H : Hp} : ∀ (ds : List PyData) (vs : List V), DvAll H vs ds → DpAll K H vs ds
  | [], _, h => by cases h; exact .nil
  | d :: ds, _, h => by
    cases h with
    | cons h1 h2 => exact .cons (Dv.dp d _ h1) (DvAll.dp ds _ h2)
end
theorem Dv.same {H H' : Hp} {v : V} {d : PyData} (h : Dv H v d) (s : Same H H') : Dv H' v d := Dv.map (fun a xs e => s _ _ e) (fun a xs e => s _ _ e) d v h
theorem DvAll.same {H H' : Hp} {v : List V} {d : List PyData} (h : DvAll H v d) (s : Same H H') : DvAll H' v d := DvAll.map (fun a xs e => s _ _ e) (fun a xs e => s _ _ e) d v h
theorem Dv.kp {b : Addr} {H H' : Hp} {v : V} {d : PyData} (h : Dv H v d) (B : Bag H b) (k : Kp b H H') : Dv H' v d := Dv.map (fun a xs e => k.lst B e) (fun a xs e => k.tup B e) d v h
theorem DvAll.len {H : Hp} : ∀ {vs : List V} {ds : List PyData}, DvAll H vs ds → vs.length = ds.length
  | _, _, .nil => rfl
  | _, _, .cons _ h => by rw [List.length_cons, List.length_cons, h.len]
theorem DvAll.get {H : Hp} : ∀ {vs : List V} {ds : List PyData} {i : Nat} {v : V}, DvAll H vs ds → vs[i]? = some v → ∃ d, ds[i]? = some d ∧ Dv H v d
  | _, _, 0, _, .cons h _, e => by cases e; exact ⟨_, rfl, h⟩
  | _, _, i + 1, _, .cons _ h, e => h.get (i := i) e
theorem DvAll.app {H : Hp} : ∀ {vs ws : List V} {ds es : List PyData}, DvAll H vs ds → DvAll H ws es → DvAll H (vs ++ ws) (ds ++ es)
  | _, _, _, _, .nil, h => h
  | _, _, _, _, .cons h r, h2 => .cons h (r.app h2)
theorem DvAll.ni {H : Hp} : ∀ l : List Nat, DvAll H (ni l) (l.map fun n => .int ((n : Nat) : Int))
  | [] => .nil
  | _ :: l => .cons (.int _) (DvAll.ni l)
/-- an integer (no bool) in a range -/
def isI (lo hi : Int) : PyData → Bool
  | .int i => decide (lo ≤ i ∧ i ≤ hi)
  | _ => false
def valI : PyData → Int
  | .int i => i
  | _ => 0
def natD (d : PyData) : Nat := (valI d).toNat
def isTp : PyData → Bool
  | .tuple _ => true
  | _ => false
theorem kb_list_int : kitB "list" "int" = some false := by decide +kernel
theorem kb_none_tup : kitB "NoneType" "tuple" = some false := by decide +kernel
theorem kb_str_tup : kitB "str" "tuple" = some false := by decide +kernel
theorem kb_list_tup : kitB "list" "tuple" = some false := by decide +kernel
theorem kb_int_tup : kitB "int" "tuple" = some false := by decide +kernel
theorem kb_bool_tup : kitB "bool" "tuple" = some false := by decide +kernel
theorem tyv_ls {H : Hp} {a : Addr} {xs : List V} (h : H a = some (.lst xs)) : tyv H (.ref a) = some "list" := by
  unfold tyv
  dsimp only
  rw [h]
theorem Dv.ranged {H : Hp} {v : V} {d : PyData} (h : Dv H v d) (lo hi : Int) : (isI lo hi d = true ∧ ∃ i, d = .int i ∧ v = .int i ∧ lo ≤ i ∧ i ≤ hi) ∨ (isI lo hi d = false ∧ BadN H v lo hi) := by
  cases h with
  | non => exact .inr ⟨rfl, .inl (.inr ⟨_, tyv_non, kb_none_int⟩)⟩
  | bl b => exact .inr ⟨rfl, .inl (.inl ⟨b, rfl⟩)⟩
  | int i =>
    by_cases g : lo ≤ i ∧ i ≤ hi
    · exact .inl ⟨decide_eq_true g, i, rfl, rfl, g⟩
    · exact .inr ⟨decide_eq_false g, .inr ⟨i, rfl, g⟩⟩
  | str x => exact .inr ⟨rfl, .inl (.inr ⟨_, tyv_str, kb_str_int⟩)⟩
  | lst h1 h2 => exact .inr ⟨rfl, .inl (.inr ⟨_, tyv_ls h1, kb_list_int⟩)⟩
  | tup h1 h2 => exact .inr ⟨rfl, .inl (.inr ⟨_, tyv_tp h1, kb_tuple_int⟩)⟩
theorem Dv.tpd {H : Hp} {v : V} {d : PyData} (h : Dv H v d) : ∃ t, tyv H v = some t ∧ kitB t "tuple" = some (isTp d) := by
  cases h with
  | non => exact ⟨_, tyv_non, kb_none_tup⟩
  | bl b => exact ⟨_, tyv_bl, kb_bool_tup⟩
  | int i => exact ⟨_, tyv_int, kb_int_tup⟩
  | str x => exact ⟨_, tyv_str, kb_str_tup⟩
  | lst h1 h2 => exact ⟨_, tyv_ls h1, kb_list_tup⟩
  | tup h1 h2 => exact ⟨_, tyv_tp h1, kb_tuple_tuple⟩
/-- ascending marks below 32 -/
def AreM : PyData → Prop
  | .tuple ds => (∀ d ∈ ds, isI 0 31 d = true) ∧ (ds.map valI).Pairwise (· < ·)
  | _ => False
abbrev BR : Type := PyData × PyData × PyData × PyData
def brD (r : BR) : PyData := .tuple [r.1, r.2.1, r.2.2.1, r.2.2.2]
/-- a row that can be one by itself -/
def RowG (n : Nat) (r : BR) : Prop := AreM r.1 ∧ isI 0 n r.2.1 = true ∧ isI 0 n r.2.2.1 = true ∧ isI 0 n r.2.2.2 = true
def BRAt (H : Hp) (a : Addr) (r : BR) : Prop := ∃ v0 v1 v2 v3, H a = some (.tup [v0, v1, v2, v3]) ∧ Dv H v0 r.1 ∧ Dv H v1 r.2.1 ∧ Dv H v2 r.2.2.1 ∧ Dv H v3 r.2.2.2
theorem BRAt.same {H H' : Hp} {a : Addr} {r : BR} (h : BRAt H a r) (s : Same H H') : BRAt H' a r := by
  obtain ⟨v0, v1, v2, v3, h0, h1, h2, h3, h4⟩ := h
  exact ⟨v0, v1, v2, v3, s _ _ h0, h1.same s, h2.same s, h3.same s, h4.same s⟩
theorem BRAt.kp {b : Addr} {H H' : Hp} {a : Addr} {r : BR} (h : BRAt H a r) (B : Bag H b) (k : Kp b H H') : BRAt H' a r := by
  obtain ⟨v0, v1, v2, v3, h0, h1, h2, h3, h4⟩ := h
  exact ⟨v0, v1, v2, v3, k.tup B h0, h1.kp B k, h2.kp B k, h3.kp B k, h4.kp B k⟩
def holB (rs : List BR) : List Nat := 0 :: rs.map fun r => natD r.2.1
def besB (rs : List BR) : List Nat := 0 :: rs.map fun r => natD r.2.2.1
/-- the row that begins with f is the parts of t -/
def PartsRow (hol bes : List Nat) (n f t : Nat) : Prop := ∃ P : List Nat, P.Nodup ∧ (∀ z, z ∈ P ↔ 1 ≤ z ∧ z ≤ n ∧ hol.getD z 0 = t) ∧ Chain bes f P
def itH (hol : List Nat) : Nat → Nat → Nat
  | 0, a => a
  | k + 1, a => itH hol k (hol.getD a 0)
/-- thing j + 1 is right among the others -/
def Among (rs : List BR) (j : Nat) : Prop := PartsRow (holB rs) (besB rs) rs.length (natD ((rs.map fun r => r.2.2.2).getD j .none)) (j + 1) ∧ itH (holB rs) (rs.length + 1) (j + 1) = 0 ∧ ((holB rs).getD (j + 1) 0 = 0 → (besB rs).getD (j + 1) 0 = 0)
/-- the first bad thing of the rows, or 0 -/
def FirstBad (rs : List BR) (k : Nat) : Prop :=
  ((∀ r ∈ rs, RowG rs.length r) ∧ ((k = 0 ∧ ∀ j < rs.length, Among rs j) ∨ ∃ j < rs.length, k = j + 1 ∧ ¬ Among rs j ∧ ∀ i < j, Among rs i)) ∨
  ∃ j r, rs[j]? = some r ∧ k = j + 1 ∧ ¬ RowG rs.length r ∧ ∀ i q, i < j → rs[i]? = some q → RowG rs.length q
def spAreMG : Sp := fun vs H Q _ => ∃ (v : V) (d : PyData), vs = [v, .int 32] ∧ Dv H v d ∧ ∀ (c : Bool) H', (c = true ↔ AreM d) → Same H H' → Q (.bl c) H'
def spIsRowG : Sp := fun vs H Q _ => ∃ (a : Addr) (r : BR) (n : Nat), vs = [.ref a, .int 32, .int (n : Nat)] ∧ BRAt H a r ∧ ∀ (c : Bool) H', (c = true ↔ RowG n r) → Same H H' → Q (.bl c) H'
def spRowPG : Sp := fun vs H Q _ => ∃ (a b : Addr) (hol bes : List Nat) (t n f : Nat), vs = [.ref a, .ref b, .int (f : Nat), .int (t : Nat)] ∧ H a = some (.lst (ni hol)) ∧ H b = some (.lst (ni bes)) ∧ n ≤ 60 ∧ hol.length = n + 1 ∧ bes.length = n + 1 ∧ (∀ v ∈ bes, v ≤ n) ∧ hol.getD 0 0 = 0 ∧ f ≤ n ∧ 1 ≤ t ∧ t ≤ n ∧
  ∀ (c : Bool) H', (c = true ↔ PartsRow hol bes n f t) → Same H H' → Q (.bl c) H'
def spNoPlaceG : Sp := fun vs H Q _ => ∃ (p : Addr) (hol : List Nat) (n i : Nat), vs = [.ref p, .int (i : Nat)] ∧ H p = some (.lst (ni hol)) ∧ hol.length = n + 1 ∧ (∀ v ∈ hol, v ≤ n) ∧ hol.getD 0 0 = 0 ∧ i ≤ n ∧ n ≤ 60 ∧ Q (.bl (!decide (itH hol (n + 1) i = 0))) H
/-- rows at p, a list or a tuple -/
structure BRows (H : Hp) (p : Addr) (as : List Addr) (rs : List BR) : Prop where
  h : Sq H p (as.map V.ref)
  la : as.length = rs.length
  row : ∀ (j : Nat) (a : Addr) (r : BR), as[j]? = some a → rs[j]? = some r → BRAt H a r
theorem sq_same {H H' : Hp} {p : Addr} {xs : List V} (h : Sq H p xs) (s : Same H H') : Sq H' p xs := h.elim (fun h => .inl (s _ _ h)) fun h => .inr (s _ _ h)
theorem BRows.same {H H' : Hp} {p : Addr} {as : List Addr} {rs : List BR} (h : BRows H p as rs) (s : Same H H') : BRows H' p as rs := ⟨sq_same h.h s, h.la, fun j a r e1 e2 => (h.row j a r e1 e2).same s⟩
def spCheckG : Sp := fun vs H Q _ => ∃ (p : Addr) (as : List Addr) (rs : List BR), vs = [.ref p, .int 32] ∧ BRows H p as rs ∧ 1 ≤ rs.length ∧ rs.length ≤ 60 ∧ ∀ k H', FirstBad rs k → Same H H' → Q (if k = 0 then .non else .int (k : Nat)) H'
theorem pw_consec {l : List Int} (h : ∀ i, i + 1 < l.length → l.getD i 0 < l.getD (i + 1) 0) : l.Pairwise (· < ·) := by
  rw [List.pairwise_iff_getElem]
  have g : ∀ (i k : Nat), i + k + 1 < l.length → l.getD i 0 < l.getD (i + k + 1) 0 := by
    intro i k
    induction k with
    | zero => exact h i
    | succ k ih =>
      intro hk
      have h1 := ih (by omega)
      have h2 := h (i + k + 1) (by omega)
      rw [show i + (k + 1) + 1 = i + k + 1 + 1 by omega]
      omega
  intro i j hi hj lt
  have := g i (j - i - 1) (by omega)
  rw [show i + (j - i - 1) + 1 = j by omega] at this
  rw [List.getD_eq_getElem?_getD, List.getD_eq_getElem?_getD, List.getElem?_eq_getElem hi, List.getElem?_eq_getElem hj] at this
  exact this
theorem areM_ne {ds : List PyData} {i : Nat} {d : PyData} (h : ds[i]? = some d) (n : isI 0 31 d = false) : ¬ AreM (.tuple ds) := fun z => by
  have := z.1 d (List.mem_of_getElem? h)
  rw [n] at this
  cases this
theorem areM_ge {ds : List PyData} {i : Nat} {a b : PyData} (h1 : ds[i]? = some a) (h2 : ds[i + 1]? = some b) (n : valI b ≤ valI a) : ¬ AreM (.tuple ds) := fun z => by
  have p := List.pairwise_iff_getElem.mp z.2
  have l1 := (List.getElem?_eq_some_iff.mp h1)
  have l2 := (List.getElem?_eq_some_iff.mp h2)
  obtain ⟨l1, e1⟩ := l1
  obtain ⟨l2, e2⟩ := l2
  have := p i (i + 1) (by rw [List.length_map]; exact l1) (by rw [List.length_map]; exact l2) (by omega)
  rw [List.getElem_map, List.getElem_map, e1, e2] at this
  omega
theorem itH_zero {hol : List Nat} (h0 : hol.getD 0 0 = 0) : ∀ k, itH hol k 0 = 0
  | 0 => rfl
  | k + 1 => by
    unfold itH
    rw [h0]
    exact itH_zero h0 k
theorem itH_le {hol : List Nat} {n : Nat} (hb : ∀ v ∈ hol, v ≤ n) : ∀ k i, i ≤ n → itH hol k i ≤ n
  | 0, i, h => h
  | k + 1, i, h => itH_le hb k _ (getD_le hb)
/-- the way from f through the things of l to g -/
def Seg (bes : List Nat) : Nat → List Nat → Nat → Prop
  | f, [], g => f = g
  | f, p :: l, g => f = p ∧ p ≠ 0 ∧ Seg bes (bes.getD p 0) l g
theorem seg_snoc {bes : List Nat} : ∀ {l : List Nat} {f g : Nat}, Seg bes f l g → g ≠ 0 → Seg bes f (l ++ [g]) (bes.getD g 0)
  | [], f, g, h, h0 => by
    have h : f = g := h
    exact ⟨h, h0, rfl⟩
  | p :: l, f, g, ⟨h1, h2, h3⟩, h0 => ⟨h1, h2, seg_snoc h3 h0⟩
theorem seg_chain {bes : List Nat} : ∀ {l : List Nat} {f g : Nat} {r : List Nat}, Seg bes f l g → Chain bes g r → Chain bes f (l ++ r)
  | [], f, g, r, h, c => by
    have h : f = g := h
    rw [h]
    exact c
  | p :: l, f, g, r, ⟨h1, h2, h3⟩, c => ⟨h1, h2, seg_chain h3 c⟩
theorem seg_split {bes : List Nat} : ∀ {l : List Nat} {f g : Nat} {P : List Nat}, Seg bes f l g → Chain bes f P → ∃ r, P = l ++ r ∧ Chain bes g r
  | [], f, g, P, h, c => by
    have h : f = g := h
    rw [h] at c
    exact ⟨P, rfl, c⟩
  | p :: l, f, g, [], ⟨h1, h2, h3⟩, c => by
    have c : f = 0 := c
    exact absurd (by rw [← h1, c]) h2
  | p :: l, f, g, q :: P, ⟨h1, h2, h3⟩, ⟨c1, c2, c3⟩ => by
    have e : p = q := h1.symm.trans c1
    subst e
    obtain ⟨r, e, c⟩ := seg_split h3 c3
    exact ⟨r, by rw [e]; rfl, c⟩
theorem chain_zero {bes : List Nat} {r : List Nat} (c : Chain bes 0 r) : r = [] := by
  cases r with
  | nil => rfl
  | cons p r => exact absurd c.1.symm c.2.1
theorem Dv.nat {H : Hp} {v : V} {d : PyData} {n : Nat} (h : Dv H v d) (g : isI 0 n d = true) : v = .int (natD d : Nat) ∧ natD d ≤ n := by
  rcases h.ranged 0 n with ⟨_, i, rfl, rfl, a, b⟩ | ⟨e, _⟩
  · have : ((natD (.int i) : Nat) : Int) = i := by
      show ((i.toNat : Nat) : Int) = i
      omega
    exact ⟨by rw [this], by omega⟩
  · rw [e] at g
    cases g
theorem holB_get {rs : List BR} {j : Nat} {r : BR} (h : rs[j]? = some r) : (holB rs).getD (j + 1) 0 = natD r.2.1 ∧ (besB rs).getD (j + 1) 0 = natD r.2.2.1 ∧ (rs.map fun r => r.2.2.2).getD j .none = r.2.2.2 := by
  refine ⟨?_, ?_, ?_⟩
  · rw [holB, List.getD_eq_getElem?_getD, List.getElem?_cons_succ, List.getElem?_map, h]
    rfl
  · rw [besB, List.getD_eq_getElem?_getD, List.getElem?_cons_succ, List.getElem?_map, h]
    rfl
  · rw [List.getD_eq_getElem?_getD, List.getElem?_map, h]
    rfl
theorem holB_len (rs : List BR) : (holB rs).length = rs.length + 1 ∧ (besB rs).length = rs.length + 1 := by
  rw [holB, besB, List.length_cons, List.length_cons, List.length_map, List.length_map]
  exact ⟨rfl, rfl⟩
theorem natD_le {d : PyData} {n : Nat} (g : isI 0 n d = true) : natD d ≤ n := by
  cases d with
  | int i =>
    have := of_decide_eq_true g
    show i.toNat ≤ n
    omega
  | _ => cases g
theorem holB_le {rs : List BR} (h : ∀ r ∈ rs, RowG rs.length r) : (∀ v ∈ holB rs, v ≤ rs.length) ∧ ∀ v ∈ besB rs, v ≤ rs.length := by
  constructor
  · intro v hv
    rcases List.mem_cons.mp hv with rfl | hv
    · exact Nat.zero_le _
    · obtain ⟨r, hr, rfl⟩ := List.mem_map.mp hv
      exact natD_le (h r hr).2.1
  · intro v hv
    rcases List.mem_cons.mp hv with rfl | hv
    · exact Nat.zero_le _
    · obtain ⟨r, hr, rfl⟩ := List.mem_map.mp hv
      exact natD_le (h r hr).2.2.1
theorem BRows.at_ {H : Hp} {p : Addr} {as : List Addr} {rs : List BR} (R : BRows H p as rs) {j : Nat} {y : V} (hy : (as.map V.ref)[j]? = some y) : ∃ a r, y = .ref a ∧ as[j]? = some a ∧ rs[j]? = some r ∧ r ∈ rs ∧ BRAt H a r ∧ j < rs.length := by
  have hj := (List.getElem?_eq_some_iff.mp hy).1
  rw [List.length_map] at hj
  rw [List.getElem?_map, List.getElem?_eq_getElem hj] at hy
  cases hy
  have la := R.la
  have hj2 : j < rs.length := by omega
  exact ⟨as[j], rs[j], rfl, List.getElem?_eq_getElem hj, List.getElem?_eq_getElem hj2, List.getElem_mem hj2, R.row j _ _ (List.getElem?_eq_getElem hj) (List.getElem?_eq_getElem hj2), hj2⟩
theorem itH_add {hol : List Nat} : ∀ (a b i : Nat), itH hol (a + b) i = itH hol b (itH hol a i)
  | 0, b, i => by rw [Nat.zero_add]; rfl
  | a + 1, b, i => by
    rw [show a + 1 + b = (a + b) + 1 by omega]
    exact itH_add a b _
theorem pigeon {f : Nat → Nat} {n : Nat} (h : ∀ k < n + 1, 1 ≤ f k ∧ f k ≤ n) : ∃ a b, a < b ∧ b < n + 1 ∧ f a = f b := by
  refine Classical.byContradiction fun no => ?_
  have nd : ((List.range (n + 1)).map f).Nodup := by
    rw [List.nodup_iff_pairwise_ne, List.pairwise_iff_getElem]
    intro i j hi hj lt e
    rw [List.length_map, List.length_range] at hi hj
    rw [List.getElem_map, List.getElem_map, List.getElem_range, List.getElem_range] at e
    exact no ⟨i, j, lt, hj, e⟩
  have := nodup_le nd (b := List.range' 1 n) fun z hz => by
    obtain ⟨k, hk, rfl⟩ := List.mem_map.mp hz
    have := h k (List.mem_range.mp hk)
    exact List.mem_range'_1.mpr ⟨this.1, by omega⟩
  rw [List.length_map, List.length_range, List.length_range'] at this
  omega
/-- a thing that holds itself -/
def Cyc (hol : List Nat) (t : Nat) : Prop := ∃ k, itH hol (k + 1) t = t
theorem orbit_never {hol : List Nat} {n x0 i : Nat} (hx : x0 ≤ n) (hb : ∀ v ∈ hol, v ≤ n) (h : ∀ k < n + 1, itH hol k x0 ≠ 0 ∧ itH hol k x0 ≠ i) : ∀ k, itH hol k x0 ≠ i := by
  obtain ⟨a, b, lt, hb2, e⟩ := pigeon (f := fun k => itH hol k x0) (n := n) fun k hk => ⟨Nat.pos_of_ne_zero (h k hk).1, itH_le hb k x0 hx⟩
  have back : ∀ m, itH hol (b + m) x0 = itH hol (a + m) x0 := fun m => by rw [itH_add, itH_add, e]
  have key : ∀ k, ∃ j, j < b ∧ itH hol k x0 = itH hol j x0 := by
    intro k
    induction k using Nat.strongRecOn with
    | _ k ih =>
      by_cases g : k < b
      · exact ⟨k, g, rfl⟩
      · obtain ⟨j, hj, ej⟩ := ih (a + (k - b)) (by omega)
        refine ⟨j, hj, ?_⟩
        rw [← ej, ← back (k - b), show b + (k - b) = k by omega]
  intro k
  obtain ⟨j, hj, ej⟩ := key k
  rw [ej]
  exact (h j (by omega)).2
def rkF (hol : List Nat) : Nat → Nat → Nat
  | 0, _ => 0
  | k + 1, t => if t = 0 then 0 else rkF hol k (hol.getD t 0) + 1
theorem rkF_more {hol : List Nat} : ∀ (k t m : Nat), itH hol k t = 0 → k ≤ m → rkF hol (m + 1) t = rkF hol (k + 1) t
  | 0, t, m, h, _ => by
    have h : t = 0 := h
    unfold rkF
    rw [if_pos h, if_pos h]
  | k + 1, t, m, h, hm => by
    obtain ⟨m, rfl⟩ : ∃ q, m = q + 1 := ⟨m - 1, by omega⟩
    have ih := rkF_more k (hol.getD t 0) m h (by omega)
    show (if t = 0 then 0 else rkF hol (m + 1) (hol.getD t 0) + 1) = (if t = 0 then 0 else rkF hol (k + 1) (hol.getD t 0) + 1)
    rw [ih]
theorem rank_of_it {hol : List Nat} {n N : Nat} (hb : ∀ v ∈ hol, v ≤ n) (h0 : hol.getD 0 0 = 0) (h : ∀ t, 1 ≤ t → t ≤ n → itH hol N t = 0) : ∃ r, Ranked hol n r := by
  refine rank_bd hb (r := fun t => rkF hol (N + 1 + 1) t) fun t t1 t2 => ?_
  have e : rkF hol (N + 1 + 1) t = rkF hol (N + 1) (hol.getD t 0) + 1 := if_neg (by omega)
  have hz : itH hol N (hol.getD t 0) = 0 := by
    by_cases g : hol.getD t 0 = 0
    · rw [g]
      exact itH_zero h0 N
    · exact h _ (by omega) (getD_le hb)
  have := rkF_more N (hol.getD t 0) (N + 1) hz (by omega)
  show rkF hol (N + 1 + 1) (hol.getD t 0) < rkF hol (N + 1 + 1) t
  rw [e, this]
  omega
theorem no_cyc {hol : List Nat} {n : Nat} (hb : ∀ v ∈ hol, v ≤ n) (h0 : hol.getD 0 0 = 0) (h : ∀ t, 1 ≤ t → t ≤ n → ¬ Cyc hol t) : ∀ t, 1 ≤ t → t ≤ n → itH hol (n + 1) t = 0 := by
  intro t t1 t2
  refine Classical.byContradiction fun no => ?_
  have nz : ∀ k < n + 1, itH hol k t ≠ 0 := fun k hk e => no (by
    rw [show n + 1 = k + (n + 1 - k) by omega, itH_add, e]
    exact itH_zero h0 _)
  obtain ⟨a, b, lt, hb2, e⟩ := pigeon (f := fun k => itH hol k t) (n := n) fun k hk => ⟨Nat.pos_of_ne_zero (nz k hk), itH_le hb k t t2⟩
  refine h (itH hol a t) (Nat.pos_of_ne_zero (nz a (by omega))) (itH_le hb a t t2) ⟨b - a - 1, ?_⟩
  rw [← itH_add, show a + (b - a - 1 + 1) = b by omega]
  exact e.symm
theorem cyc_no {hol : List Nat} {n t : Nat} {r : Nat → Nat} (hb : ∀ v ∈ hol, v ≤ n) (hr : Ranked hol n r) (t1 : 1 ≤ t) (t2 : t ≤ n) (h0 : hol.getD 0 0 = 0) : ¬ Cyc hol t := fun ⟨k, hk⟩ => by
  have key : ∀ k s, s ≤ n → itH hol (k + 1) s ≠ 0 → r (itH hol (k + 1) s) < r s := by
    intro k
    induction k with
    | zero =>
      intro s hs hz
      have s0 : s ≠ 0 := fun e => hz (by rw [e]; exact itH_zero h0 _)
      exact (hr s (by omega) hs).1
    | succ k ih =>
      intro s hs hz
      have s0 : s ≠ 0 := fun e => hz (by rw [e]; exact itH_zero h0 _)
      have h1 := (hr s (by omega) hs).1
      have h2 := ih (hol.getD s 0) (getD_le hb) hz
      exact Nat.lt_trans h2 h1
  have := key k t t2 (by rw [hk]; omega)
  rw [hk] at this
  omega
def spComesG : Sp := fun vs H Q _ => ∃ (p : Addr) (hol : List Nat) (n i : Nat), vs = [.ref p, .int (i : Nat)] ∧ H p = some (.lst (ni hol)) ∧ hol.length = n + 1 ∧ (∀ v ∈ hol, v ≤ n) ∧ hol.getD 0 0 = 0 ∧ 1 ≤ i ∧ i ≤ n ∧ n ≤ 60 ∧ ∀ c : Bool, (c = true ↔ Cyc hol i) → Q (.bl c) H
abbrev PR : Type := PyData × PyData
def PrAt (H : Hp) (a : Addr) (r : PR) : Prop := ∃ v0 v1, H a = some (.tup [v0, v1]) ∧ Dv H v0 r.1 ∧ Dv H v1 r.2
theorem PrAt.same {H H' : Hp} {a : Addr} {r : PR} (h : PrAt H a r) (s : Same H H') : PrAt H' a r := by
  obtain ⟨v0, v1, h0, h1, h2⟩ := h
  exact ⟨v0, v1, s _ _ h0, h1.same s, h2.same s⟩
def MkD : PyData → Prop
  | .tuple ds => (∀ d ∈ ds, isI 0 31 d = true) ∧ ds.length ≤ 40
  | _ => False
def MkG : PyData → Prop
  | .tuple ds => ∀ d ∈ ds, isI 0 31 d = true
  | _ => False
/-- a pair that can be one by itself -/
def PairG (n : Nat) (r : PR) : Prop := isI 0 n r.1 = true ∧ MkG r.2
def holP (rs : List PR) : List Nat := 0 :: rs.map fun r => natD r.1
def FirstBadP (rs : List PR) (k : Nat) : Prop :=
  ((∀ r ∈ rs, PairG rs.length r) ∧ ((k = 0 ∧ ∀ j < rs.length, ¬ Cyc (holP rs) (j + 1)) ∨ ∃ j < rs.length, k = j + 1 ∧ Cyc (holP rs) (j + 1) ∧ ∀ i < j, ¬ Cyc (holP rs) (i + 1))) ∨
  ∃ j r, rs[j]? = some r ∧ k = j + 1 ∧ ¬ PairG rs.length r ∧ ∀ i q, i < j → rs[i]? = some q → PairG rs.length q
structure PRows (H : Hp) (p : Addr) (as : List Addr) (rs : List PR) : Prop where
  h : Sq H p (as.map V.ref)
  la : as.length = rs.length
  row : ∀ (j : Nat) (a : Addr) (r : PR), as[j]? = some a → rs[j]? = some r → PrAt H a r
theorem PRows.same {H H' : Hp} {p : Addr} {as : List Addr} {rs : List PR} (h : PRows H p as rs) (s : Same H H') : PRows H' p as rs := ⟨sq_same h.h s, h.la, fun j a r e1 e2 => (h.row j a r e1 e2).same s⟩
theorem PRows.at_ {H : Hp} {p : Addr} {as : List Addr} {rs : List PR} (R : PRows H p as rs) {j : Nat} {y : V} (hy : (as.map V.ref)[j]? = some y) : ∃ a r, y = .ref a ∧ as[j]? = some a ∧ rs[j]? = some r ∧ r ∈ rs ∧ PrAt H a r ∧ j < rs.length := by
  have hj := (List.getElem?_eq_some_iff.mp hy).1
  rw [List.length_map] at hj
  rw [List.getElem?_map, List.getElem?_eq_getElem hj] at hy
  cases hy
  have la := R.la
  have hj2 : j < rs.length := by omega
  exact ⟨as[j], rs[j], rfl, List.getElem?_eq_getElem hj, List.getElem?_eq_getElem hj2, List.getElem_mem hj2, R.row j _ _ (List.getElem?_eq_getElem hj) (List.getElem?_eq_getElem hj2), hj2⟩
def mkL (d : PyData) : List Nat := match d with | .tuple ds => ds.map natD | _ => []
theorem dvAll_ni {H : Hp} : ∀ {xs : List V} {ds : List PyData}, DvAll H xs ds → (∀ d ∈ ds, isI 0 31 d = true) → xs = ni (ds.map natD)
  | _, _, .nil, _ => rfl
  | _, _, .cons h r, g => by
    rw [(h.nat (n := 31) (g _ List.mem_cons_self)).1, dvAll_ni r fun d hd => g d (List.mem_cons_of_mem _ hd)]
    rfl
theorem pair_nat {H : Hp} {a : Addr} {h : Nat} {v : V} {d : PyData} (g0 : H a = some (.tup [.int (h : Nat), v])) (g2 : Dv H v d) (ok : MkG d) : PairAt H a (h, mkL d) := by
  cases d with
  | tuple ds =>
    cases g2 with
    | tup hm hds =>
    rw [dvAll_ni hds ok] at hm
    exact ⟨_, g0, hm⟩
  | _ => exact ok.elim
theorem mkL_lt {d : PyData} (ok : MkG d) : ∀ m ∈ mkL d, m < 32 := fun m hm => by
  cases d with
  | tuple ds =>
    obtain ⟨x, hx, rfl⟩ := List.mem_map.mp hm
    have := natD_le (n := 31) (ok x hx)
    omega
  | _ => cases hm
def nat2 (rs : List PR) : List (Nat × List Nat) := rs.map fun r => (natD r.1, mkL r.2)
theorem mkG_of {d : PyData} (h : AreM d) : MkG d := by
  cases d with
  | tuple ds => exact h.1
  | _ => exact h.elim
theorem mkL_asc {d : PyData} (h : AreM d) : (mkL d).Pairwise (· < ·) ∧ ∀ m ∈ mkL d, m < 32 := by
  cases d with
  | tuple ds =>
    refine ⟨?_, mkL_lt (mkG_of h)⟩
    show (ds.map natD).Pairwise (· < ·)
    have p := h.2
    rw [List.pairwise_map] at p ⊢
    refine (List.pairwise_iff_getElem.mpr fun i j hi hj lt => ?_)
    have := List.pairwise_iff_getElem.mp p i j hi hj lt
    have a := natD_le (n := 31) (h.1 _ (List.getElem_mem hi))
    have pos : ∀ d, isI 0 31 d = true → 0 ≤ valI d := fun d hd => by
      cases d with
      | int i => exact (of_decide_eq_true hd).1
      | _ => cases hd
    have p1 := pos _ (h.1 _ (List.getElem_mem hi))
    have p2 := pos _ (h.1 _ (List.getElem_mem hj))
    show (valI _).toNat < (valI _).toNat
    omega
  | _ => exact h.elim
/-- Tree.of(rows): a bad one, or the tree -/
def spOfG (K : PySem.W.Frag) : Sp := fun vs H Q E => ∃ (p : Addr) (as : List Addr) (rs : List BR), vs = [.ref p] ∧ BRows H p as rs ∧ 1 ≤ rs.length ∧ rs.length ≤ 60 ∧
  (∀ k d H', k ≠ 0 → FirstBad rs k → Same H H' → H d = none → H' d = some (.xd [("thing", .int (k : Nat))]) → E (.ref (He.ga K "BadTree")) (some d) H') ∧
  (FirstBad rs 0 → ∀ x A H', Same H H' → (∀ a ∈ x :: A.own, H a = none) → TreeAt K H' x A ⟨holB rs, besB rs, 0 :: rs.map fun r => natD r.2.2.2, [] :: rs.map fun r => mkL r.1⟩ → Q (.ref x) H')
/-- Tree(pairs): a bad one, or the tree -/
def spTreeG (K : PySem.W.Frag) : Sp := fun vs H Q E => ∃ (x p dx : Addr) (as : List Addr) (rs : List PR), vs = [.ref x, .ref p] ∧ H x = some (.ins (He.ga K "Tree") dx []) ∧ PRows H p as rs ∧ 1 ≤ rs.length ∧ rs.length ≤ 60 ∧ (∀ r ∈ rs, (mkL r.2).length ≤ 40) ∧
  (∀ k d H', k ≠ 0 → FirstBadP rs k → Kx x H H' → H d = none → H' d = some (.xd [("thing", .int (k : Nat))]) → E (.ref (He.ga K "BadTree")) (some d) H') ∧
  (FirstBadP rs 0 → ∀ A T H', Kx x H H' → (∀ a ∈ A.own, H a = none) → TreeAt K H' x A T → TrOk T → T.hol = holP rs → T.mks = mks0 (nat2 rs) → Forest T (rows0 (nat2 rs) rs.length) → Q .non H')
def isIn : PyData → Bool
  | .int _ => true
  | _ => false
theorem Dv.tyi {H : Hp} {v : V} {d : PyData} (h : Dv H v d) : ∃ t, tyv H v = some t ∧ ((isIn d = true ∧ kitB t "int" = some true ∧ kitB t "bool" = some false) ∨ (isIn d = false ∧ (kitB t "int" = some false ∨ (kitB t "int" = some true ∧ kitB t "bool" = some true)))) := by
  cases h with
  | non => exact ⟨_, tyv_non, .inr ⟨rfl, .inl kb_none_int⟩⟩
  | bl b => exact ⟨_, tyv_bl, .inr ⟨rfl, .inr ⟨kb_bool_int, kb_bool_bool⟩⟩⟩
  | int i => exact ⟨_, tyv_int, .inl ⟨rfl, kb_int_int, kb_int_bool⟩⟩
  | str x => exact ⟨_, tyv_str, .inr ⟨rfl, .inl kb_str_int⟩⟩
  | lst h1 h2 => exact ⟨_, tyv_ls h1, .inr ⟨rfl, .inl kb_list_int⟩⟩
  | tup h1 h2 => exact ⟨_, tyv_tp h1, .inr ⟨rfl, .inl kb_tuple_int⟩⟩
def spIntegerG : Sp := fun vs H Q _ => ∃ (v : V) (d : PyData), vs = [v] ∧ Dv H v d ∧ Q (.bl (isIn d)) H
mutual
/-- no list in it -/
def NL : PyData → Bool
  | .list _ => false
  | .tuple ds => NLA ds
  | _ => true
def NLA : List PyData → Bool
  | [] => true
  | d :: ds => NL d && NLA ds
end
mutual
theorem Dv.mapT {H H' : Hp} (ht : ∀ a xs, H a = some (.tup xs) → H' a = some (.tup xs)) : ∀ (d : PyData) (v : V), NL d = true → Dv H v d → Dv H' v d
  | .none, _, _, h => by cases h; exact .non
  | .bool b, _, _, h => by cases h; exact .bl b
  | .int i, _, _, h => by cases h; exact .int i
  | .str x, _, _, h => by cases h; exact .str x
  | .list ds, _, n, h => by cases n
  | .tuple ds, _, n, h => by
    cases h with
    | tup h1 h2 => exact .tup (ht _ _ h1) (DvAll.mapT ht ds _ n h2)
  | .dict _, _, _, h => by cases h
theorem DvAll.mapT {H H' : Hp} (ht : ∀ a xs, H a = some (.tup xs) → H' a = some (.tup xs)) : ∀ (ds : List PyData) (vs : List V), NLA ds = true → DvAll H vs ds → DvAll H' vs ds
  | [], _, _, h => by cases h; exact .nil
  | d :: ds, _, n, h => by
    have n : (NL d && NLA ds) = true := n
    rw [Bool.and_eq_true] at n
    cases h with
    | cons h1 h2 => exact .cons (Dv.mapT ht d _ n.1 h1) (DvAll.mapT ht ds _ n.2 h2)
end
/-- small data without lists -/
structure Se (d : PyData) : Prop where
  s : Sm d 1 60
  nc : (NL d && PyData.canLay0 d) = true
theorem Se.n {d : PyData} (h : Se d) : NL d = true := (Bool.and_eq_true_iff.mp h.nc).1
theorem Se.c {d : PyData} (h : Se d) : PyData.canLay0 d = true := (Bool.and_eq_true_iff.mp h.nc).2
theorem nla_of : ∀ {ds : List PyData}, (∀ x ∈ ds, NL x = true) → NLA ds = true
  | [], _ => rfl
  | d :: ds, h => by
    show (NL d && NLA ds) = true
    rw [h d List.mem_cons_self, nla_of fun x hx => h x (List.mem_cons_of_mem _ hx)]
    rfl
/-- data that stay small -/
def MkOk (L : Nat) (d : PyData) : Prop := Sm d 3 3000 ∧ ∀ ds, d = .tuple ds → ds.length ≤ L ∧ ∀ x ∈ ds, Se x
theorem MkOk.mono {L M : Nat} {d : PyData} (h : MkOk L d) (m : L ≤ M) : MkOk M d := ⟨h.1, fun ds e => ⟨Nat.le_trans (h.2 ds e).1 m, (h.2 ds e).2⟩⟩
theorem MkOk.nl {L : Nat} {ds : List PyData} (h : MkOk L (.tuple ds)) : NLA ds = true := nla_of fun x hx => ((h.2 ds rfl).2 x hx).n
structure RowS (L : Nat) (r : BR) : Prop where
  m : MkOk L r.1
  h : Se r.2.1
  b : Se r.2.2.1
  f : Se r.2.2.2
theorem RowS.mono {L M : Nat} {r : BR} (h : RowS L r) (m : L ≤ M) : RowS M r := ⟨h.m.mono m, h.h, h.b, h.f⟩
/-- v stands for d in each heap that keeps the tuples, and the lists made since H -/
def DvF (H H' : Hp) (v : V) (d : PyData) : Prop := ∀ H'', (∀ a xs, H' a = some (.tup xs) → H'' a = some (.tup xs)) → (∀ a xs, H a = none → H' a = some (.lst xs) → H'' a = some (.lst xs)) → Dv H'' v d
theorem DvF.of {H H' : Hp} {v : V} {d : PyData} (h : Dv H' v d) (n : NL d = true) : DvF H H' v d := fun _ ht _ => Dv.mapT ht d v n h
theorem DvF.lst {H H' : Hp} {a : Addr} {xs : List V} {ds : List PyData} (na : H a = none) (ha : H' a = some (.lst xs)) (h : DvAll H' xs ds) (n : NLA ds = true) : DvF H H' (.ref a) (.list ds) := fun _ ht hl => .lst (hl a xs na ha) (DvAll.mapT ht ds xs n h)
theorem DvF.dv {H H' : Hp} {v : V} {d : PyData} (h : DvF H H' v d) : Dv H' v d := h H' (fun _ _ e => e) fun _ _ _ e => e
/-- the law's rows: a list -/
structure LT (H : Hp) (p : Addr) (as : List Addr) (rs : List BR) (L : Nat) : Prop where
  h : H p = some (.lst (as.map V.ref))
  la : as.length = rs.length
  row : ∀ (j : Nat) (a : Addr) (r : BR), as[j]? = some a → rs[j]? = some r → BRAt H a r
  sm : ∀ r ∈ rs, RowS L r
theorem LT.same {H H' : Hp} {p : Addr} {as : List Addr} {rs : List BR} {L : Nat} (h : LT H p as rs L) (s : Same H H') : LT H' p as rs L := ⟨s _ _ h.h, h.la, fun j a r e1 e2 => (h.row j a r e1 e2).same s, h.sm⟩
theorem LT.kp {b : Addr} {H H' : Hp} {p : Addr} {as : List Addr} {rs : List BR} {L : Nat} (h : LT H p as rs L) (B : Bag H b) (k : Kp b H H') : LT H' p as rs L := ⟨k.lst B h.h, h.la, fun j a r e1 e2 => (h.row j a r e1 e2).kp B k, h.sm⟩
theorem LT.rows {H : Hp} {p : Addr} {as : List Addr} {rs : List BR} {L : Nat} (h : LT H p as rs L) : BRows H p as rs := ⟨.inl h.h, h.la, h.row⟩
/-- the law's pairs: a list -/
structure LP (H : Hp) (p : Addr) (as : List Addr) (rs : List PR) (L : Nat) : Prop where
  h : H p = some (.lst (as.map V.ref))
  la : as.length = rs.length
  row : ∀ (j : Nat) (a : Addr) (r : PR), as[j]? = some a → rs[j]? = some r → PrAt H a r
  sm : ∀ r ∈ rs, MkOk L r.2 ∧ Se r.1
theorem PrAt.kp {b : Addr} {H H' : Hp} {a : Addr} {r : PR} (h : PrAt H a r) (B : Bag H b) (k : Kp b H H') : PrAt H' a r := by
  obtain ⟨v0, v1, h0, h1, h2⟩ := h
  exact ⟨v0, v1, k.tup B h0, h1.kp B k, h2.kp B k⟩
theorem LP.same {H H' : Hp} {p : Addr} {as : List Addr} {rs : List PR} {L : Nat} (h : LP H p as rs L) (s : Same H H') : LP H' p as rs L := ⟨s _ _ h.h, h.la, fun j a r e1 e2 => (h.row j a r e1 e2).same s, h.sm⟩
theorem LP.kp {b : Addr} {H H' : Hp} {p : Addr} {as : List Addr} {rs : List PR} {L : Nat} (h : LP H p as rs L) (B : Bag H b) (k : Kp b H H') : LP H' p as rs L := ⟨k.lst B h.h, h.la, fun j a r e1 e2 => (h.row j a r e1 e2).kp B k, h.sm⟩
theorem LP.rows {H : Hp} {p : Addr} {as : List Addr} {rs : List PR} {L : Nat} (h : LP H p as rs L) : PRows H p as rs := ⟨.inl h.h, h.la, h.row⟩
theorem isIn_isI {d : PyData} (h : isIn d = false) (lo hi : Int) : isI lo hi d = false := by
  cases d <;> first | rfl | cases h
theorem ni_inj {a b : List Nat} : ni a = ni b ↔ a = b := by
  constructor
  · intro h
    induction a generalizing b with
    | nil => cases b with
      | nil => rfl
      | cons y b => cases h
    | cons x a ih => cases b with
      | nil => cases h
      | cons y b =>
        have h1 := (List.cons.inj h).1
        have h2 := ih (List.cons.inj h).2
        have : x = y := by have := V.int.inj h1; omega
        rw [this, h2]
  · rintro rfl
    rfl
theorem mk_tup {ds : List PyData} {L M : Nat} (h : ∀ x ∈ ds, Se x) (hl : ds.length ≤ M) (hM : M ≤ L) (h46 : M ≤ 46) : MkOk L (.tuple ds) := by
  refine ⟨(sm_tuple fun x hx => (h x hx).s).mono (by decide) (by omega), fun es e => ?_⟩
  cases e
  exact ⟨by omega, h⟩
theorem mk_lst {ds : List PyData} {L : Nat} (h : ∀ x ∈ ds, Se x) (hl : ds.length ≤ 46) : MkOk L (.list ds) := ⟨(sm_list fun x hx => (h x hx).s).mono (by decide) (by omega), fun es e => by cases e⟩
theorem mk_any {d : PyData} {L : Nat} (h : Sm d 1 60) (n : isTp d = false) : MkOk L d := ⟨h.mono (by decide) (by decide), fun es e => by rw [e] at n; cases n⟩
theorem sm_i {i : Int} (h1 : -999999999999 ≤ i) (h2 : i ≤ 999999999999) : Se (.int i) := ⟨(sm_int h1 h2).mono (by decide) (by decide), rfl⟩
theorem sm_big : Se (.int (10 ^ Int.toNat 39)) := ⟨⟨by decide +kernel, rfl, by decide +kernel, by decide +kernel, by decide +kernel⟩, rfl⟩
def spLBadRow : Sp := fun vs H Q _ => ∃ (a : Addr) (r : BR) (n : Nat), vs = [.ref a, .int (n : Nat)] ∧ BRAt H a r ∧ ∀ (c : Bool) H', (c = true ↔ ¬ RowG n r) → Same H H' → Q (.bl c) H'
def spLAmong : Sp := fun vs H Q _ => ∃ (p : Addr) (as : List Addr) (rs : List BR) (L j : Nat), vs = [.ref p, .int ((j + 1 : Nat) : Int)] ∧ LT H p as rs L ∧ rs.length ≤ 60 ∧ j < rs.length ∧ (∀ r ∈ rs, RowG rs.length r) ∧ ∀ (c : Bool) H', (c = true ↔ Among rs j) → Same H H' → Q (.bl c) H'
def spLFirst : Sp := fun vs H Q _ => ∃ (p : Addr) (as : List Addr) (rs : List BR) (L : Nat), vs = [.ref p] ∧ LT H p as rs L ∧ rs.length ≤ 60 ∧ ∀ (k : Nat) H', FirstBad rs k → Same H H' → Q (.int (k : Nat)) H'
def spLOddG : Sp := fun vs H Q _ => ∃ (b : Addr) (n : Nat), vs = [.ref b, .int (n : Nat)] ∧ Bag H b ∧ n ≤ 60 ∧ ∀ v d H', Kp b H H' → Dv H' v d → Se d → Q v H'
def spLOddM : Sp := fun vs H Q _ => ∃ (b p : Addr) (ds : List PyData) (L : Nat), vs = [.ref b, .ref p] ∧ Bag H b ∧ Dv H (.ref p) (.tuple ds) ∧ MkOk L (.tuple ds) ∧ L ≤ 40 ∧ ∀ v d H', Kp b H H' → DvF H H' v d → MkOk (max 32 (L + 1)) d → Q v H'
def spLPartsG : Sp := fun vs H Q _ => ∃ (p : Addr) (as : List Addr) (rs : List BR) (L j : Nat), vs = [.ref p, .int ((j + 1 : Nat) : Int)] ∧ LT H p as rs L ∧ rs.length ≤ 60 ∧ j < rs.length ∧ FirstBad rs 0 ∧ ∀ (P : List Nat) q H', P.Nodup → (∀ z, z ∈ P ↔ 1 ≤ z ∧ z ≤ rs.length ∧ (holB rs).getD z 0 = j + 1) → Chain (besB rs) (natD ((rs.map fun r => r.2.2.2).getD j .none)) P → Same H H' → H q = none → H' q = some (.lst (ni P)) → Q (.ref q) H'
theorem LT.get {H : Hp} {p : Addr} {as : List Addr} {rs : List BR} {L : Nat} (R : LT H p as rs L) (all : ∀ r ∈ rs, RowG rs.length r) {z : Nat} (z1 : 1 ≤ z) (z2 : z ≤ rs.length) : ∃ a v0, as[z - 1]? = some a ∧ atI (as.map V.ref) ((z : Nat) - 1 : Int) = some (.ref a) ∧ H a = some (.tup [v0, .int ((holB rs).getD z 0 : Nat), .int ((besB rs).getD z 0 : Nat), .int (natD ((rs.map fun r => r.2.2.2).getD (z - 1) .none) : Nat)]) := by
  have la := R.la
  have hz : z - 1 < rs.length := by omega
  have hza : z - 1 < as.length := by omega
  obtain ⟨v0, v1, v2, v3, g0, g1, g2, g3, g4⟩ := R.row (z - 1) _ _ (List.getElem?_eq_getElem hza) (List.getElem?_eq_getElem hz)
  have g := all _ (List.getElem_mem hz)
  obtain ⟨rfl, _⟩ := g2.nat g.2.1
  obtain ⟨rfl, _⟩ := g3.nat g.2.2.1
  obtain ⟨rfl, _⟩ := g4.nat g.2.2.2
  obtain ⟨w1, w2, w3⟩ := holB_get (List.getElem?_eq_getElem hz)
  rw [show z - 1 + 1 = z by omega] at w1 w2
  refine ⟨as[z - 1], v0, List.getElem?_eq_getElem hza, ?_, ?_⟩
  · rw [show ((z : Nat) : Int) - 1 = ((z - 1 : Nat) : Int) by omega]
    exact atI_get (by rw [List.getElem?_map, List.getElem?_eq_getElem hza]; rfl)
  · rw [w1, w2, w3]
    exact g0
theorem cat_any {K : PySem.W.Frag} {H : Hp} {Q : VK} {a b : Addr} {xs ys : List V} {ds es : List PyData} (ha : H a = some (.tup xs)) (hx : DvAll H xs ds) (hb : H b = some (.tup ys)) (hy : DvAll H ys es) (hl : xs.length + ys.length ≤ 1000) (q : ∀ r H', Same H H' → Dv H' (.ref r) (.tuple (ds ++ es)) → Q (.ref r) H') : rCatA K (.ref a) (.ref b) H Q := by
  refine ⟨a, b, xs, ys, rfl, rfl, .inl (.inl ha), .inl (.inl hb), Nat.le_trans hl (by decide), fun e => ?_, fun _ e => ?_, fun _ _ r nr => ?_⟩
  · subst e
    cases hx
    exact q b H (Same.refl H) (.tup hb hy)
  · subst e
    cases hy
    exact q a H (Same.refl H) (by rw [List.append_nil]; exact .tup ha hx)
  · exact q r _ (same_new nr) (.tup upd_same ((hx.app hy).same (same_new nr)))
theorem FirstBad.good {rs : List BR} (fb : FirstBad rs 0) : (∀ r ∈ rs, RowG rs.length r) ∧ ∀ j < rs.length, Among rs j := by
  rcases fb with ⟨all, ⟨_, am⟩ | ⟨j, _, e, _⟩⟩ | ⟨j, _, _, e, _⟩
  · exact ⟨all, am⟩
  · omega
  · omega
theorem firB_le {rs : List BR} (all : ∀ r ∈ rs, RowG rs.length r) {j : Nat} (hj : j < rs.length) : natD ((rs.map fun r => r.2.2.2).getD j .none) ≤ rs.length := by
  obtain ⟨_, _, w3⟩ := holB_get (List.getElem?_eq_getElem hj)
  rw [w3]
  exact natD_le (all _ (List.getElem_mem hj)).2.2.2
theorem sIx_neg1 (n d : Nat) : HT.sIx n d (some (-1)) = n - 1 := by
  show (if (-1 : Int) < 0 then (-1 + (n : Int)).toNat else min (-1 : Int).toNat n) = n - 1
  rw [if_pos (by decide)]
  omega
theorem cutV_neg1 (xs : List V) : cutV xs (some (-1)) none = xs.drop (xs.length - 1) := by
  unfold cutV
  rw [sIx_neg1, HT.sIx_none, List.take_of_length_le (by rw [List.length_drop]; omega)]
theorem DvAll.drop {H : Hp} : ∀ (k : Nat) {vs : List V} {ds : List PyData}, DvAll H vs ds → DvAll H (vs.drop k) (ds.drop k)
  | 0, _, _, h => h
  | _ + 1, _, _, .nil => .nil
  | k + 1, _, _, .cons _ h => h.drop k
/-! ### the first bad one is one -/
theorem fb_uniq {rs : List BR} {k k' : Nat} (h : FirstBad rs k) (h' : FirstBad rs k') : k = k' := by
  rcases h with ⟨all, h⟩ | ⟨j, r, e, rfl, no, pre⟩ <;> rcases h' with ⟨all', h'⟩ | ⟨j', r', e', rfl, no', pre'⟩
  · rcases h with ⟨rfl, am⟩ | ⟨j, hj, rfl, no, pre⟩ <;> rcases h' with ⟨rfl, am'⟩ | ⟨j', hj', rfl, no', pre'⟩
    · rfl
    · exact absurd (am j' hj') no'
    · exact absurd (am' j hj) no
    · rcases Nat.lt_trichotomy j j' with l | l | l
      · exact absurd (pre' j l) no
      · rw [l]
      · exact absurd (pre j' l) no'
  · exact absurd (all r' (List.mem_of_getElem? e')) no'
  · exact absurd (all' r (List.mem_of_getElem? e)) no
  · rcases Nat.lt_trichotomy j j' with l | l | l
    · exact absurd (pre' j r l e) no
    · rw [l]
    · exact absurd (pre j' r' l e') no'
theorem fbp_uniq {rs : List PR} {k k' : Nat} (h : FirstBadP rs k) (h' : FirstBadP rs k') : k = k' := by
  rcases h with ⟨all, h⟩ | ⟨j, r, e, rfl, no, pre⟩ <;> rcases h' with ⟨all', h'⟩ | ⟨j', r', e', rfl, no', pre'⟩
  · rcases h with ⟨rfl, am⟩ | ⟨j, hj, rfl, no, pre⟩ <;> rcases h' with ⟨rfl, am'⟩ | ⟨j', hj', rfl, no', pre'⟩
    · rfl
    · exact absurd no' (am j' hj')
    · exact absurd no (am' j hj)
    · rcases Nat.lt_trichotomy j j' with l | l | l
      · exact absurd no (pre' j l)
      · rw [l]
      · exact absurd no' (pre j' l)
  · exact absurd (all r' (List.mem_of_getElem? e')) no'
  · exact absurd (all' r (List.mem_of_getElem? e)) no
  · rcases Nat.lt_trichotomy j j' with l | l | l
    · exact absurd (pre' j r l e) no
    · rw [l]
    · exact absurd (pre j' r' l e') no'
theorem fb_le {rs : List BR} {k : Nat} (h : FirstBad rs k) : k ≤ rs.length := by
  rcases h with ⟨all, ⟨rfl, am⟩ | ⟨j, hj, rfl, no, pre⟩⟩ | ⟨j, r, e, rfl, no, pre⟩
  · exact Nat.zero_le _
  · exact hj
  · exact (List.getElem?_eq_some_iff.mp e).1
theorem fbp_le {rs : List PR} {k : Nat} (h : FirstBadP rs k) : k ≤ rs.length := by
  rcases h with ⟨all, ⟨rfl, am⟩ | ⟨j, hj, rfl, no, pre⟩⟩ | ⟨j, r, e, rfl, no, pre⟩
  · exact Nat.zero_le _
  · exact hj
  · exact (List.getElem?_eq_some_iff.mp e).1
/-! ### what a tree of rows tells -/
def intsD (l : List Nat) : PyData := .tuple (l.map fun n => .int ((n : Nat) : Int))
def rowB (r : TRow) : BR := (intsD r.1, .int (r.2.1 : Nat), .int (r.2.2.1 : Nat), .int (r.2.2.2 : Nat))
def toldB (rs : List BR) : PyData := .tuple (rs.map brD)
theorem toldD_B (rs : List TRow) : toldD rs = toldB (rs.map rowB) := by
  rw [toldD, toldB, List.map_map]
  rfl
theorem isI_eq {d : PyData} {n : Nat} (h : isI 0 n d = true) : d = .int (natD d : Nat) := by
  cases d with
  | int i =>
    have := (of_decide_eq_true h).1
    show PyData.int i = .int (i.toNat : Nat)
    rw [Int.toNat_of_nonneg this]
  | _ => cases h
theorem natD_int (n : Nat) : natD (.int (n : Nat)) = n := by
  show (((n : Nat) : Int)).toNat = n
  omega
theorem isI_nat {n m : Nat} : isI 0 n (.int (m : Nat)) = true ↔ m ≤ n := by
  constructor
  · intro h
    have := of_decide_eq_true h
    omega
  · intro h
    exact decide_eq_true (by omega)
theorem areM_eq {d : PyData} (h : AreM d) : d = intsD (mkL d) := by
  cases d with
  | tuple ds =>
    show PyData.tuple ds = .tuple ((ds.map natD).map fun n => .int ((n : Nat) : Int))
    rw [List.map_map]
    congr 1
    refine ((List.map_congr_left fun x hx => ?_).trans (List.map_id _)).symm
    exact (isI_eq (n := 31) (h.1 x hx)).symm
  | _ => exact h.elim
theorem mkL_ints (l : List Nat) : mkL (intsD l) = l := by
  show (l.map fun n => PyData.int ((n : Nat) : Int)).map natD = l
  rw [List.map_map]
  exact (List.map_congr_left fun x _ => natD_int x).trans (List.map_id _)
theorem areM_ints {l : List Nat} (h1 : l.Pairwise (· < ·)) (h2 : ∀ m ∈ l, m < 32) : AreM (intsD l) := by
  refine ⟨fun d hd => ?_, ?_⟩
  · obtain ⟨m, hm, rfl⟩ := List.mem_map.mp hd
    have := h2 m hm
    exact isI_nat.mpr (by omega : m ≤ 31)
  · rw [List.map_map, List.pairwise_map]
    exact h1.imp fun h => by
      show ((_ : Nat) : Int) < ((_ : Nat) : Int)
      omega
/-- the tree of the rows -/
def trB (rs : List BR) : Tr := ⟨holB rs, besB rs, 0 :: rs.map fun r => natD r.2.2.2, [] :: rs.map fun r => mkL r.1⟩
theorem trB_n (rs : List BR) : (trB rs).n = rs.length := by
  show (holB rs).length - 1 = rs.length
  rw [(holB_len rs).1]
  rfl
theorem cons_getD {α : Type} {a z : α} {l : List α} {j : Nat} {x : α} (h : l[j]? = some x) : (a :: l).getD (j + 1) z = x := by
  rw [List.getD_eq_getElem?_getD, List.getElem?_cons_succ, h]
  rfl
theorem rowsB_eq {rs : List BR} (all : ∀ r ∈ rs, RowG rs.length r) : (rowsT (trB rs)).map rowB = rs := by
  refine List.ext_getElem (by rw [rowsT, List.length_map, List.length_map, List.length_range', trB_n]) fun j h1 h2 => ?_
  simp only [rowsT, List.getElem_map, List.getElem_range', show 1 + 1 * j = j + 1 by omega]
  have e := List.getElem?_eq_getElem h2
  obtain ⟨g1, g2, g3, g4⟩ := all _ (List.getElem_mem h2)
  obtain ⟨w1, w2, w3⟩ := holB_get e
  have w4 : (trB rs).mks.getD (j + 1) [] = mkL rs[j].1 := cons_getD (by rw [List.getElem?_map, e]; rfl)
  have w5 : (trB rs).fir.getD (j + 1) 0 = natD rs[j].2.2.2 := cons_getD (by rw [List.getElem?_map, e]; rfl)
  have w6 : srtN (mkL rs[j].1) = mkL rs[j].1 := srt_uniq (srtN_pw _) ((mkL_asc g1).1.imp Nat.le_of_lt) (srtN_perm _)
  show (intsD (srtN ((trB rs).mks.getD (j + 1) [])), PyData.int ((holB rs).getD (j + 1) 0 : Nat), PyData.int ((besB rs).getD (j + 1) 0 : Nat), PyData.int ((trB rs).fir.getD (j + 1) 0 : Nat)) = rs[j]
  rw [w4, w5, w6, w1, w2, ← areM_eq g1, ← isI_eq g2, ← isI_eq g3, ← isI_eq g4]
theorem fb_ok {rs : List BR} (fb : FirstBad rs 0) (n1 : 1 ≤ rs.length) (n60 : rs.length ≤ 60) : TrOk (trB rs) := by
  obtain ⟨all, am⟩ := fb.good
  obtain ⟨vh, vb⟩ := holB_le all
  have en := trB_n rs
  refine ⟨by omega, by omega, by rw [en]; exact (holB_len rs).1, by rw [en]; exact (holB_len rs).2, by rw [en]; exact congrArg (· + 1) (List.length_map ..), by rw [en]; exact congrArg (· + 1) (List.length_map ..), by rw [en]; exact vh, by rw [en]; exact vb, fun v hv => ?_, fun l hl => ?_⟩
  · rw [en]
    rcases List.mem_cons.mp hv with rfl | hv
    · exact Nat.zero_le _
    · obtain ⟨r, hr, rfl⟩ := List.mem_map.mp hv
      exact natD_le (all r hr).2.2.2
  · rcases List.mem_cons.mp hl with rfl | hl
    · exact ⟨.nil, fun m hm => (by cases hm)⟩
    · obtain ⟨r, hr, rfl⟩ := List.mem_map.mp hl
      have := mkL_asc (all r hr).1
      exact ⟨this.1.imp Nat.ne_of_lt, this.2⟩
theorem fb_forest {rs : List BR} (fb : FirstBad rs 0) : ∃ P, Forest (trB rs) P := by
  obtain ⟨all, am⟩ := fb.good
  obtain ⟨vh, vb⟩ := holB_le all
  have en := trB_n rs
  obtain ⟨n, e⟩ : ∃ n, n = rs.length := ⟨_, rfl⟩
  have h : ∀ h : Nat, ∃ P : List Nat, h ≤ n → P.Nodup ∧ (∀ z, z ∈ P ↔ 1 ≤ z ∧ z ≤ n ∧ (holB rs).getD z 0 = h) ∧ (1 ≤ h → Chain (besB rs) ((trB rs).fir.getD h 0) P) := fun h => by
    by_cases h1 : 1 ≤ h ∧ h ≤ n
    · obtain ⟨j, rfl⟩ : ∃ j, h = j + 1 := ⟨h - 1, by omega⟩
      obtain ⟨⟨P, p1, p2, p3⟩, _⟩ := am j (by omega)
      have er := List.getElem?_eq_getElem (by omega : j < rs.length)
      rw [(holB_get er).2.2] at p3
      refine ⟨P, fun _ => ⟨p1, by rw [e]; exact p2, fun _ => ?_⟩⟩
      rw [show (trB rs).fir.getD (j + 1) 0 = natD rs[j].2.2.2 from cons_getD (by rw [List.getElem?_map, er]; rfl)]
      exact p3
    · refine ⟨(List.range' 1 n).filter fun z => decide ((holB rs).getD z 0 = h), fun _ => ⟨(List.nodup_range' ..).filter _, fun z => ?_, fun _ => by omega⟩⟩
      rw [List.mem_filter, List.mem_range'_1, decide_eq_true_eq]
      exact ⟨fun z => ⟨z.1.1, by omega, z.2⟩, fun z => ⟨⟨z.1, by omega⟩, z.2.2⟩⟩
  obtain ⟨f, hf⟩ := Classical.axiomOfChoice h
  have gf : ∀ h, h ≤ n → ((List.range (n + 1)).map f).getD h [] = f h := fun h hh => by
    rw [List.getD_eq_getElem?_getD, List.getElem?_map, List.getElem?_range (by omega)]
    rfl
  rw [← e] at en
  refine ⟨(List.range (n + 1)).map f, by rw [en, List.length_map, List.length_range], fun h t hh => ?_, fun l hl => ?_, fun h h1 hh => ?_, rfl, fun t ht h0 => ?_, rfl, ?_⟩
  · rw [en] at hh ⊢
    rw [gf h hh]
    exact (hf h hh).2.1 t
  · obtain ⟨h, hh, rfl⟩ := List.mem_map.mp hl
    exact (hf h (by have := List.mem_range.mp hh; omega)).1
  · rw [en] at hh
    rw [gf h hh]
    exact (hf h hh).2.2 h1
  · by_cases t0 : t = 0
    · rw [t0]
      rfl
    · obtain ⟨j, rfl⟩ : ∃ j, t = j + 1 := ⟨t - 1, by omega⟩
      exact (am j (by omega)).2.2 h0
  · rw [en, e]
    exact rank_of_it (N := rs.length + 1) vh rfl fun t t1 t2 => by
      have := (am (t - 1) (by omega)).2.1
      rw [show t - 1 + 1 = t by omega] at this
      exact this
theorem row_br {H : Hp} {a : Addr} {r : TRow} (h : RowAt H a r) : BRAt H a (rowB r) := by
  obtain ⟨m, h1, h2⟩ := h
  exact ⟨_, _, _, _, h1, .tup h2 (DvAll.ni _), .int _, .int _, .int _⟩
theorem told_rows {H : Hp} {p : Addr} {rs : List BR} (all : ∀ r ∈ rs, RowG rs.length r) (h : ToldAt H p (rowsT (trB rs))) : ∃ as, BRows H p as rs := by
  obtain ⟨as, h1, h2, h3⟩ := h
  have e := rowsB_eq all
  refine ⟨as, .inr h1, by rw [h2, ← congrArg List.length e, List.length_map], fun j a r e1 e2 => ?_⟩
  rw [← e, List.getElem?_map] at e2
  cases q : (rowsT (trB rs))[j]? with
  | none => rw [q] at e2; cases e2
  | some r0 =>
    rw [q] at e2
    cases e2
    exact row_br (h3 j a r0 e1 q)
/-! ### pairs -/
def rowP (rs : List PR) (t : Nat) : TRow :=
  ((List.range 32).filter (fun m => decide (m ∈ mkL (rs.getD (t - 1) (.none, .none)).2)), (holP rs).getD t 0,
    (if (holP rs).getD t 0 = 0 then 0 else (((List.range' (t + 1) (rs.length - t)).filter fun u => decide ((holP rs).getD u 0 = (holP rs).getD t 0)) ++ [0]).getD 0 0),
    (((List.range' 1 rs.length).filter fun u => decide ((holP rs).getD u 0 = t)) ++ [0]).getD 0 0)
def rowsP (rs : List PR) : List TRow := (List.range' 1 rs.length).map (rowP rs)
theorem once_mem' (l : List Nat) : ∀ acc : List Nat, acc.Nodup → (l.foldl (fun a m => if m ∈ a then a else a ++ [m]) acc).Nodup ∧ ∀ z, z ∈ l.foldl (fun a m => if m ∈ a then a else a ++ [m]) acc ↔ z ∈ acc ∨ z ∈ l := by
  induction l with
  | nil => exact fun acc h => ⟨h, fun z => by simp⟩
  | cons m l ih =>
    intro acc h
    rw [List.foldl_cons]
    by_cases g : m ∈ acc
    · rw [if_pos g]
      obtain ⟨i1, i2⟩ := ih acc h
      refine ⟨i1, fun z => ?_⟩
      rw [i2, List.mem_cons]
      constructor
      · rintro (k | k)
        · exact .inl k
        · exact .inr (.inr k)
      · rintro (k | k | k)
        · exact .inl k
        · exact .inl (by rw [k]; exact g)
        · exact .inr k
    · rw [if_neg g]
      obtain ⟨i1, i2⟩ := ih (acc ++ [m]) (List.nodup_append.mpr ⟨h, by simp, fun x hx y hy e => g (by rw [← List.mem_singleton.mp hy, ← e]; exact hx)⟩)
      refine ⟨i1, fun z => ?_⟩
      rw [i2, List.mem_append, List.mem_singleton, List.mem_cons, or_assoc]
theorem marks_low {l : List Nat} (h : ∀ m ∈ l, m < 32) : srtN (onceL l) = (List.range 32).filter fun m => decide (m ∈ l) := by
  obtain ⟨n1, n2⟩ := once_mem' l [] .nil
  refine srt_uniq (srtN_pw _) (List.pairwise_le_range.filter _) ((srtN_perm _).trans ?_)
  refine (List.perm_ext_iff_of_nodup n1 (List.nodup_range.filter _)).mpr fun z => ?_
  rw [List.mem_filter, List.mem_range, decide_eq_true_eq]
  refine (n2 z).trans ⟨fun k => ?_, fun k => .inr k.2⟩
  rcases k with k | k
  · cases k
  · exact ⟨h z k, k⟩
theorem rowsP_eq {rs : List PR} {T : Tr} (all : ∀ r ∈ rs, PairG rs.length r) (eh : T.hol = holP rs) (em : T.mks = mks0 (nat2 rs)) (ok : TrOk T) (F : Forest T (rows0 (nat2 rs) rs.length)) : rowsT T = rowsP rs := by
  have lh : (holP rs).length = rs.length + 1 := congrArg (· + 1) (List.length_map ..)
  have en : T.n = rs.length := by
    show T.hol.length - 1 = _
    rw [eh, lh]
    rfl
  have ehol : (0 :: (nat2 rs).map fun r => r.1) = holP rs := by
    rw [nat2, holP, List.map_map]
    rfl
  have eP : ∀ g, g ≤ rs.length → (rows0 (nat2 rs) rs.length).getD g [] = (List.range' 1 rs.length).filter fun u => decide ((holP rs).getD u 0 = g) := fun g hg => by
    rw [rows0, List.getD_eq_getElem?_getD, List.getElem?_map, List.getElem?_range (by omega), ehol]
    rfl
  rw [rowsT, rowsP, en]
  refine List.map_congr_left fun t ht => ?_
  obtain ⟨t1, t2⟩ := List.mem_range'_1.mp ht
  obtain ⟨j, rfl⟩ : ∃ j, t = j + 1 := ⟨t - 1, by omega⟩
  have hj : j < rs.length := by omega
  have er : rs[j]? = some rs[j] := List.getElem?_eq_getElem hj
  have g := all _ (List.mem_of_getElem? er)
  have hb : (holP rs).getD (j + 1) 0 ≤ rs.length := by
    have := getD_le (i := j + 1) ok.vh
    rw [eh, en] at this
    exact this
  unfold rowT rowP
  refine Prod.ext ?_ (Prod.ext ?_ (Prod.ext ?_ ?_))
  · show srtN (T.mks.getD (j + 1) []) = _
    have : T.mks.getD (j + 1) [] = onceL (mkL rs[j].2) := by
      rw [em, mks0, nat2, List.map_map]
      exact cons_getD (by rw [List.getElem?_map, er]; rfl)
    rw [this, marks_low (mkL_lt g.2), Nat.add_sub_cancel, List.getD_eq_getElem?_getD, er]
    rfl
  · show T.hol.getD (j + 1) 0 = _
    rw [eh]
  · show T.bes.getD (j + 1) 0 = _
    by_cases h0 : (holP rs).getD (j + 1) 0 = 0
    · rw [if_pos h0]
      exact F.b0 (j + 1) (by omega) (by rw [eh]; exact h0)
    · rw [if_neg h0]
      have c := F.ch _ (Nat.pos_of_ne_zero h0) (by rw [en]; exact hb)
      rw [eP _ hb] at c
      have sp : List.range' 1 rs.length = List.range' 1 j ++ (j + 1) :: List.range' (j + 1 + 1) (rs.length - (j + 1)) := by
        have h1 := List.range'_append (s := 1) (m := j) (n := rs.length - j) (step := 1)
        rw [show j + (rs.length - j) = rs.length by omega, show 1 + 1 * j = j + 1 by omega, show rs.length - j = rs.length - (j + 1) + 1 by omega, List.range'_succ] at h1
        exact h1.symm
      rw [sp, List.filter_append, List.filter_cons_of_pos (p := fun u => decide ((holP rs).getD u 0 = (holP rs).getD (j + 1) 0)) (a := j + 1) (decide_eq_true rfl)] at c
      exact (chain_first (chain_mid c)).symm
  · show T.fir.getD (j + 1) 0 = _
    have c := F.ch (j + 1) t1 (by omega)
    rw [eP (j + 1) (by omega)] at c
    exact (chain_first c).symm
theorem LT.mono {H : Hp} {p : Addr} {as : List Addr} {rs : List BR} {L M : Nat} (h : LT H p as rs L) (m : L ≤ M) : LT H p as rs M := ⟨h.h, h.la, h.row, fun r hr => (h.sm r hr).mono m⟩
theorem LP.mono {H : Hp} {p : Addr} {as : List Addr} {rs : List PR} {L M : Nat} (h : LP H p as rs L) (m : L ≤ M) : LP H p as rs M := ⟨h.h, h.la, h.row, fun r hr => ⟨(h.sm r hr).1.mono m, (h.sm r hr).2⟩⟩
def spLDrawn : Sp := fun vs H Q _ => ∃ (b : Addr) (n : Nat), vs = [.ref b, .int (n : Nat), .int 32] ∧ Bag H b ∧ 1 ≤ n ∧ n ≤ 60 ∧ ∀ q as rs H', Kp b H H' → LT H' q as rs 33 → rs.length = n → FirstBad rs 0 → Q (.ref q) H'
def spLRinged : Sp := fun vs H Q _ => ∃ (b p : Addr) (as : List Addr) (rs : List BR) (L : Nat), vs = [.ref b, .ref p] ∧ Bag H b ∧ LT H p as rs L ∧ 1 ≤ rs.length ∧ rs.length ≤ 60 ∧ FirstBad rs 0 ∧ ∀ q as' rs' H', Kp b H H' → LT H' q as' rs' L → rs'.length = rs.length → Q (.ref q) H'
def spLExch : Sp := fun vs H Q _ => ∃ (b p : Addr) (as : List Addr) (rs : List BR) (L : Nat), vs = [.ref b, .ref p] ∧ Bag H b ∧ LT H p as rs L ∧ 1 ≤ rs.length ∧ rs.length ≤ 60 ∧ ∀ q as' rs' H', Kp b H H' → LT H' q as' rs' L → rs'.length = rs.length → Q (.ref q) H'
def spLChanged : Sp := fun vs H Q _ => ∃ (b p : Addr) (as : List Addr) (rs : List BR) (L : Nat), vs = [.ref b, .ref p] ∧ Bag H b ∧ LT H p as rs L ∧ 1 ≤ rs.length ∧ rs.length ≤ 60 ∧ 32 ≤ L ∧ L ≤ 39 ∧ ∀ q as' rs' H', Kp b H H' → LT H' q as' rs' (L + 1) → rs'.length = rs.length → Q (.ref q) H'
def spLPChanged : Sp := fun vs H Q _ => ∃ (b p : Addr) (as : List Addr) (rs : List PR) (L : Nat), vs = [.ref b, .ref p] ∧ Bag H b ∧ LP H p as rs L ∧ 1 ≤ rs.length ∧ rs.length ≤ 60 ∧ 32 ≤ L ∧ L ≤ 39 ∧ ∀ q as' rs' H', Kp b H H' → LP H' q as' rs' (L + 1) → rs'.length = rs.length → Q (.ref q) H'
def ansW (k : Nat) : Str := if k = 0 then "good" else "bad"
def ansZ (k : Nat) (d : PyData) : Str := if k = 0 then d.shown else (PyData.int (k : Nat)).shown
def spLJudged : Sp := fun vs H Q _ => ∃ (p : Addr) (as : List Addr) (rs : List BR) (L : Nat), vs = [.ref p] ∧ BRows H p as rs ∧ (∀ r ∈ rs, RowS L r) ∧ 1 ≤ rs.length ∧ rs.length ≤ 60 ∧ ∀ k q H', FirstBad rs k → Same H H' → H q = none → H' q = some (.lst [.str (ansW k), .str (ansZ k (toldB rs)), .bl true]) → Q (.ref q) H'
def spLDue : Sp := fun vs H Q _ => ∃ (p : Addr) (as : List Addr) (rs : List BR) (L : Nat), vs = [.ref p] ∧ LT H p as rs L ∧ 1 ≤ rs.length ∧ rs.length ≤ 60 ∧ ∀ k q H', FirstBad rs k → Same H H' → H q = none → H' q = some (.lst [.str (ansW k), .str (ansZ k (toldB rs)), .bl true]) → Q (.ref q) H'
def spLFirstP : Sp := fun vs H Q _ => ∃ (p : Addr) (as : List Addr) (rs : List PR) (L : Nat), vs = [.ref p] ∧ LP H p as rs L ∧ rs.length ≤ 60 ∧ L ≤ 40 ∧ ∀ k H', FirstBadP rs k → Same H H' → Q (.int (k : Nat)) H'
def spLPJudged : Sp := fun vs H Q _ => ∃ (p : Addr) (as : List Addr) (rs : List PR) (L : Nat), vs = [.ref p] ∧ PRows H p as rs ∧ (∀ r ∈ rs, MkOk L r.2) ∧ L ≤ 40 ∧ 1 ≤ rs.length ∧ rs.length ≤ 60 ∧ ∀ k q H', FirstBadP rs k → Same H H' → H q = none → H' q = some (.lst [.str (ansW k), .str (ansZ k (toldD (rowsP rs))), .bl true]) → Q (.ref q) H'
def spLPDue : Sp := fun vs H Q _ => ∃ (p : Addr) (as : List Addr) (rs : List PR) (L : Nat), vs = [.ref p] ∧ LP H p as rs L ∧ L ≤ 40 ∧ 1 ≤ rs.length ∧ rs.length ≤ 60 ∧ ∀ k q H', FirstBadP rs k → Same H H' → H q = none → H' q = some (.lst [.str (ansW k), .str (ansZ k (toldD (rowsP rs))), .bl true]) → Q (.ref q) H'
def spLaw (K : PySem.W.Frag) : Sp := fun vs H Q _ => ∃ (a : Addr) (ns : List Int), vs = [.ref a] ∧ SqL K H a (ns.map V.int) ∧ ns.length ≤ 1000 ∧ ∀ H', Q (.bl true) H'
/-! ### rows that are changed in a new list -/
structure LTn (H0 H : Hp) (p : Addr) (as : List Addr) (rs : List BR) (L : Nat) : Prop where
  h : H p = some (.lst (as.map V.ref))
  la : as.length = rs.length
  row : ∀ (j : Nat) (a : Addr) (r : BR), as[j]? = some a → rs[j]? = some r → ∃ v0 v1 v2 v3, H a = some (.tup [v0, v1, v2, v3]) ∧ Dv H0 v0 r.1 ∧ Dv H0 v1 r.2.1 ∧ Dv H0 v2 r.2.2.1 ∧ Dv H0 v3 r.2.2.2
  sm : ∀ r ∈ rs, RowS L r
  s : Same H0 H
  n : H0 p = none
theorem LTn.new {H : Hp} {p q : Addr} {as : List Addr} {rs : List BR} {L : Nat} (R : LT H p as rs L) (nq : H q = none) : LTn H (upd H q (.lst (as.map V.ref))) q as rs L := ⟨upd_same, R.la, fun j a r e1 e2 => by
  obtain ⟨v0, v1, v2, v3, h0, h⟩ := R.row j a r e1 e2
  exact ⟨v0, v1, v2, v3, same_new nq _ _ h0, h⟩, R.sm, same_new nq, nq⟩
theorem LTn.then {H0 H H1 : Hp} {p : Addr} {as : List Addr} {rs : List BR} {L : Nat} (R : LTn H0 H p as rs L) (s : Same H H1) : LTn H0 H1 p as rs L := ⟨s _ _ R.h, R.la, fun j a r e1 e2 => by
  obtain ⟨v0, v1, v2, v3, h0, h⟩ := R.row j a r e1 e2
  exact ⟨v0, v1, v2, v3, s _ _ h0, h⟩, R.sm, R.s.trans s, R.n⟩
theorem LTn.mono {H0 H : Hp} {p : Addr} {as : List Addr} {rs : List BR} {L M : Nat} (R : LTn H0 H p as rs L) (m : L ≤ M) : LTn H0 H p as rs M := ⟨R.h, R.la, R.row, fun r hr => (R.sm r hr).mono m, R.s, R.n⟩
theorem LTn.lt {H0 H : Hp} {p : Addr} {as : List Addr} {rs : List BR} {L : Nat} (R : LTn H0 H p as rs L) : LT H p as rs L := ⟨R.h, R.la, fun j a r e1 e2 => by
  obtain ⟨v0, v1, v2, v3, h0, h1, h2, h3, h4⟩ := R.row j a r e1 e2
  exact ⟨v0, v1, v2, v3, h0, h1.same R.s, h2.same R.s, h3.same R.s, h4.same R.s⟩, R.sm⟩
theorem LTn.at_ {H0 H : Hp} {p : Addr} {as : List Addr} {rs : List BR} {L : Nat} (R : LTn H0 H p as rs L) {j : Nat} (hj : j < rs.length) : ∃ a r v0 v1 v2 v3, as[j]? = some a ∧ atI (as.map V.ref) (j : Nat) = some (.ref a) ∧ RowS L r ∧ H a = some (.tup [v0, v1, v2, v3]) ∧ Dv H0 v0 r.1 ∧ Dv H0 v1 r.2.1 ∧ Dv H0 v2 r.2.2.1 ∧ Dv H0 v3 r.2.2.2 := by
  have la := R.la
  have a1 := List.getElem?_eq_getElem (by omega : j < as.length)
  obtain ⟨v0, v1, v2, v3, h⟩ := R.row j _ _ a1 (List.getElem?_eq_getElem hj)
  exact ⟨_, _, v0, v1, v2, v3, a1, atI_get (by rw [List.getElem?_map, a1]; rfl), R.sm _ (List.getElem_mem hj), h⟩
theorem LTn.set {H0 H H1 : Hp} {p a : Addr} {as : List Addr} {rs : List BR} {L : Nat} {r : BR} {v0 v1 v2 v3 : V} (R : LTn H0 H p as rs L) (s : Same H H1) (i : Nat) (ha : H1 a = some (.tup [v0, v1, v2, v3])) (h0 : Dv H0 v0 r.1) (h1 : Dv H0 v1 r.2.1) (h2 : Dv H0 v2 r.2.2.1) (h3 : Dv H0 v3 r.2.2.2) (sm : RowS L r) :
    LTn H0 (upd H1 p (.lst ((as.map V.ref).set i (.ref a)))) p (as.set i a) (rs.set i r) L := by
  have hp := s _ _ R.h
  have keep : ∀ {b : Addr} {xs : List V}, H1 b = some (.tup xs) → (upd H1 p (.lst ((as.map V.ref).set i (.ref a)))) b = some (.tup xs) := fun h => by
    rw [upd_ne (ne_of h hp (by intro z; cases z))]
    exact h
  refine ⟨by rw [upd_same, List.map_set], by rw [List.length_set, List.length_set]; exact R.la, fun j b q e1 e2 => ?_, fun q hq => ?_, Same.put (R.s.trans s) R.n, R.n⟩
  · by_cases e : i = j
    · subst e
      have hi := (List.getElem?_eq_some_iff.mp e1).1
      rw [List.length_set] at hi
      rw [List.getElem?_set_self hi] at e1
      rw [List.getElem?_set_self (by rw [← R.la]; exact hi)] at e2
      cases e1
      cases e2
      exact ⟨v0, v1, v2, v3, keep ha, h0, h1, h2, h3⟩
    · rw [List.getElem?_set_ne e] at e1 e2
      obtain ⟨w0, w1, w2, w3, g0, g⟩ := R.row j b q e1 e2
      exact ⟨w0, w1, w2, w3, keep (s _ _ g0), g⟩
  · rcases List.mem_or_eq_of_mem_set hq with h | rfl
    · exact R.sm q h
    · exact sm
structure LPn (H0 H : Hp) (p : Addr) (as : List Addr) (rs : List PR) (L : Nat) : Prop where
  h : H p = some (.lst (as.map V.ref))
  la : as.length = rs.length
  row : ∀ (j : Nat) (a : Addr) (r : PR), as[j]? = some a → rs[j]? = some r → ∃ v0 v1, H a = some (.tup [v0, v1]) ∧ Dv H0 v0 r.1 ∧ Dv H0 v1 r.2
  sm : ∀ r ∈ rs, MkOk L r.2 ∧ Se r.1
theorem set_row {H : Hp} {L : Nat} {v0 v1 v2 v3 y : V} {r : BR} {d : PyData} {f : Nat} (f1 : 1 ≤ f) (f3 : f ≤ 3) (g0 : Dv H v0 r.1) (g1 : Dv H v1 r.2.1) (g2 : Dv H v2 r.2.2.1) (g3 : Dv H v3 r.2.2.2) (gy : Dv H y d) (sm : RowS L r) (sd : Se d) :
    ∃ w1 w2 w3 r', [v0, v1, v2, v3].set f y = [v0, w1, w2, w3] ∧ Dv H v0 (Prod.fst r') ∧ Dv H w1 r'.2.1 ∧ Dv H w2 r'.2.2.1 ∧ Dv H w3 r'.2.2.2 ∧ RowS L r' := by
  obtain rfl | rfl | rfl : f = 1 ∨ f = 2 ∨ f = 3 := by omega
  · exact ⟨y, v2, v3, (r.1, d, r.2.2.1, r.2.2.2), rfl, g0, gy, g2, g3, ⟨sm.m, sd, sm.b, sm.f⟩⟩
  · exact ⟨v1, y, v3, (r.1, r.2.1, d, r.2.2.2), rfl, g0, g1, gy, g3, ⟨sm.m, sm.h, sd, sm.f⟩⟩
  · exact ⟨v1, v2, y, (r.1, r.2.1, r.2.2.1, d), rfl, g0, g1, g2, gy, ⟨sm.m, sm.h, sm.b, sd⟩⟩
theorem ix_ref {as : List Addr} {j : Nat} (h : j < as.length) : ixN (as.map V.ref).length (j : Int) = some j := by
  unfold ixN
  rw [if_pos (by omega), if_pos (by rw [List.length_map]; omega)]
  rfl
theorem get_row {H : Hp} {L : Nat} {v0 v1 v2 v3 z : V} {r : BR} {f : Nat} (f3 : f < 3) (g1 : Dv H v1 r.2.1) (g2 : Dv H v2 r.2.2.1) (g3 : Dv H v3 r.2.2.2) (sm : RowS L r) (hz : [v0, v1, v2, v3][f + 1]? = some z) : ∃ d, Dv H z d ∧ Se d := by
  obtain rfl | rfl | rfl : f = 0 ∨ f = 1 ∨ f = 2 := by omega
  · cases hz
    exact ⟨_, g1, sm.h⟩
  · cases hz
    exact ⟨_, g2, sm.b⟩
  · cases hz
    exact ⟨_, g3, sm.f⟩
theorem set_cut {xs : List V} {z : V} {k : Nat} (h : k < xs.length) : xs.take k ++ [z] ++ xs.drop (k + 1) = xs.set k z := by
  rw [List.set_eq_take_append_cons_drop, if_pos h, List.append_assoc]
  rfl
theorem LP.get {H : Hp} {p : Addr} {as : List Addr} {rs : List PR} {L : Nat} (R : LP H p as rs L) (all : ∀ r ∈ rs, PairG rs.length r) {z : Nat} (z1 : 1 ≤ z) (z2 : z ≤ rs.length) : ∃ a v1, atI (as.map V.ref) ((z : Nat) - 1 : Int) = some (.ref a) ∧ H a = some (.tup [.int ((holP rs).getD z 0 : Nat), v1]) ∧ Dv H v1 (rs.getD (z - 1) (.none, .none)).2 := by
  have la := R.la
  have hz : z - 1 < rs.length := by omega
  have hza : z - 1 < as.length := by omega
  obtain ⟨v0, v1, g0, g1, g2⟩ := R.row (z - 1) _ _ (List.getElem?_eq_getElem hza) (List.getElem?_eq_getElem hz)
  have g := all _ (List.getElem_mem hz)
  obtain ⟨rfl, _⟩ := g1.nat g.1
  have w : (holP rs).getD z 0 = natD rs[z - 1].1 := by
    have : (holP rs).getD (z - 1 + 1) 0 = natD rs[z - 1].1 := cons_getD (by rw [List.getElem?_map, List.getElem?_eq_getElem hz]; rfl)
    rw [show z - 1 + 1 = z by omega] at this
    exact this
  refine ⟨as[z - 1], v1, ?_, by rw [w]; exact g0, ?_⟩
  · rw [show ((z : Nat) : Int) - 1 = ((z - 1 : Nat) : Int) by omega]
    exact atI_get (by rw [List.getElem?_map, List.getElem?_eq_getElem hza]; rfl)
  · rw [List.getD_eq_getElem?_getD, List.getElem?_eq_getElem hz]
    exact g2
theorem holP_le {rs : List PR} (all : ∀ r ∈ rs, PairG rs.length r) : ∀ v ∈ holP rs, v ≤ rs.length := fun v hv => by
  rcases List.mem_cons.mp hv with rfl | hv
  · exact Nat.zero_le _
  · obtain ⟨r, hr, rfl⟩ := List.mem_map.mp hv
    exact natD_le (all r hr).1
theorem cyc_zero {hol : List Nat} {t k : Nat} (h0 : hol.getD 0 0 = 0) (t1 : 1 ≤ t) (pre : ∀ m < k, itH hol m (hol.getD t 0) ≠ t) (z : itH hol k (hol.getD t 0) = 0) : ¬ Cyc hol t := fun ⟨m, hm⟩ => by
  have hm : itH hol m (hol.getD t 0) = t := hm
  by_cases lt : m < k
  · exact pre m lt hm
  · rw [show m = k + (m - k) by omega, itH_add, z, itH_zero h0] at hm
    omega
theorem filS {H H4 : Hp} {D : Addr} {lo i : Nat} {p : Nat → Bool} (hD : H4 D = some (.lst (ni ((List.range' lo i).filter p)))) (hi : i < 1000) (nD : H D = none) (s : Same H H4) :
    (p (lo + i) = true → ∃ acc, H4 D = some (.lst acc) ∧ acc.length < sizeLine ∧ acc ++ [.int ((lo + i : Nat) : Int)] = ni ((List.range' lo (i + 1)).filter p) ∧ Same H (upd H4 D (.lst (acc ++ [.int ((lo + i : Nat) : Int)])))) ∧
    (p (lo + i) = false → H4 D = some (.lst (ni ((List.range' lo (i + 1)).filter p))) ∧ Same H H4) := by
  have lf : ((List.range' lo i).filter p).length < sizeLine := by
    have := List.length_filter_le p (List.range' lo i)
    rw [List.length_range'] at this
    exact Nat.lt_of_lt_of_le (by omega : _ < 1001) (by decide)
  rw [List.range'_concat, List.filter_append, Nat.one_mul]
  refine ⟨fun e => ⟨_, hD, by rw [ni_len]; exact lf, ?_, Same.put s nD⟩, fun e => ?_⟩
  · rw [List.filter_cons_of_pos e, ni_app]
    rfl
  · rw [List.filter_cons_of_neg (by rw [e]; decide), List.filter_nil, List.append_nil]
    exact ⟨hD, s⟩
theorem sm_rowD {r : TRow} (h0 : r.1.length ≤ 40) (h1 : ∀ m ∈ r.1, m < 32) (h2 : r.2.1 ≤ 60) (h3 : r.2.2.1 ≤ 60) (h4 : r.2.2.2 ≤ 60) : Sm (rowD r) 2 2423 := by
  have i0 : ∀ m : Nat, m ≤ 60 → Sm (.int (m : Nat)) 1 603 := fun m hm => (sm_int (by omega) (by omega)).mono (by decide) (by decide)
  refine sm_tuple (ds := [.tuple (r.1.map fun n => .int ((n : Nat) : Int)), .int (r.2.1 : Nat), .int (r.2.2.1 : Nat), .int (r.2.2.2 : Nat)]) (m := 1) (k := 603) fun d hd => ?_
  simp only [List.mem_cons, List.not_mem_nil, or_false] at hd
  rcases hd with rfl | rfl | rfl | rfl
  · refine (sm_tuple (m := 0) (k := 13) fun d hd => ?_).mono (Nat.le_refl _) (by rw [List.length_map]; omega)
    obtain ⟨m, hm, rfl⟩ := List.mem_map.mp hd
    have := h1 m hm
    exact sm_int (by omega) (by omega)
  · exact i0 _ h2
  · exact i0 _ h3
  · exact i0 _ h4
theorem sm_rowsP {rs : List PR} (all : ∀ r ∈ rs, PairG rs.length r) (n60 : rs.length ≤ 60) : Sm (toldD (rowsP rs)) 3 200000 := by
  refine (sm_tuple (m := 2) (k := 2423) fun d hd => ?_).mono (Nat.le_refl _) (by rw [List.length_map, rowsP, List.length_map, List.length_range']; omega)
  obtain ⟨r, hr, rfl⟩ := List.mem_map.mp hd
  obtain ⟨t, ht, rfl⟩ := List.mem_map.mp hr
  have ht := List.mem_range'_1.mp ht
  have fb : ∀ lo k (p : Nat → Bool), lo + k ≤ rs.length + 1 → ((((List.range' lo k).filter p) ++ [0]).getD 0 0) ≤ 60 := fun lo k p hk => Nat.le_trans (getD_le (n := rs.length) fun v hv => by
    rcases List.mem_append.mp hv with h | h
    · have := List.mem_range'_1.mp (List.mem_filter.mp h).1
      omega
    · rw [List.mem_singleton.mp h]
      exact Nat.zero_le _) n60
  refine sm_rowD ?_ (fun m hm => ?_) (Nat.le_trans (getD_le (holP_le all)) n60) ?_ (fb _ _ _ (by omega))
  · have := List.length_filter_le (fun m => decide (m ∈ mkL (rs.getD (t - 1) (.none, .none)).2)) (List.range 32)
    rw [List.length_range] at this
    exact Nat.le_trans this (by decide)
  · exact List.mem_range.mp (List.mem_filter.mp hm).1
  · show (if _ then 0 else _) ≤ 60
    split
    · exact Nat.zero_le _
    · exact fb _ _ _ (by omega)
theorem chain_idx {bes : List Nat} : ∀ {l : List Nat}, (∀ z ∈ l, z ≠ 0) → (∀ j, j + 1 < l.length → bes.getD (l.getD j 0) 0 = l.getD (j + 1) 0) → (l ≠ [] → bes.getD (l.getD (l.length - 1) 0) 0 = 0) → Chain bes ((l ++ [0]).getD 0 0) l
  | [], _, _, _ => rfl
  | [p], h0, _, h2 => ⟨rfl, h0 p List.mem_cons_self, h2 (by simp)⟩
  | p :: q :: l, h0, h1, h2 => ⟨rfl, h0 p List.mem_cons_self, by
    have e : bes.getD p 0 = q := h1 0 (by simp)
    rw [e]
    exact chain_idx (l := q :: l) (fun z hz => h0 z (List.mem_cons_of_mem _ hz)) (fun j hj => h1 (j + 1) (by rw [List.length_cons]; omega)) fun _ => h2 (by simp)⟩
theorem chain_congr {bes bes' : List Nat} : ∀ {l : List Nat} {f : Nat}, Chain bes f l → (∀ z ∈ l, bes'.getD z 0 = bes.getD z 0) → Chain bes' f l
  | [], _, h, _ => h
  | p :: l, f, ⟨h1, h2, h3⟩, h => ⟨h1, h2, by
    rw [h p List.mem_cons_self]
    exact chain_congr h3 fun z hz => h z (List.mem_cons_of_mem _ hz)⟩
theorem set_le {l : List Nat} {n i v : Nat} (h : ∀ x ∈ l, x ≤ n) (hv : v ≤ n) : ∀ x ∈ l.set i v, x ≤ n := fun x hx => (List.mem_or_eq_of_mem_set hx).elim (h x) fun e => by rw [e]; exact hv
theorem RowAt.kp {b : Addr} {H H' : Hp} {a : Addr} {r : TRow} (h : RowAt H a r) (B : Bag H b) (k : Kp b H H') : RowAt H' a r := by
  obtain ⟨m, h1, h2⟩ := h
  exact ⟨m, k.tup B h1, k.tup B h2⟩
theorem flat_dv {H : Hp} (p : PyData → Bool) : ∀ {xs : List V} {ds : List PyData}, DvAll H xs ds → DvAll H (((List.range xs.length).map fun k => if p (ds.getD k .none) = true then [] else [xs.getD k .non]).flatten) (ds.filter fun d => !p d)
  | _, _, .nil => .nil
  | v :: vs, d :: ds, .cons h r => by
    have ih := flat_dv p r
    rw [List.length_cons, List.range_succ_eq_map, List.map_cons, List.flatten_cons, List.map_map, List.filter_cons]
    show DvAll H ((if p d = true then [] else [v]) ++ _) _
    cases p d with
    | true => exact ih
    | false => exact .cons h ih
theorem can_all : ∀ {ds : List PyData}, (∀ d ∈ ds, PyData.canLay0 d = true) → PyData.canLayAll0 ds = true
  | [], _ => rfl
  | d :: ds, h => by
    rw [PyData.canLayAll0, h d List.mem_cons_self, can_all fun x hx => h x (List.mem_cons_of_mem _ hx)]
    rfl
theorem dep_all {m : Nat} : ∀ {ds : List PyData}, (∀ d ∈ ds, d.depth ≤ m) → PyData.depthAll ds ≤ m
  | [], _ => Nat.zero_le _
  | d :: ds, h => by
    have h1 := h d List.mem_cons_self
    have h2 := dep_all fun x hx => h x (List.mem_cons_of_mem _ hx)
    rw [PyData.depthAll]
    omega
theorem shp_se {ds : List PyData} (h : ∀ d ∈ ds, Se d) : SeqAt.shaped (.list ds) = true := by
  have h1 : (PyData.list ds).depth ≤ 64 := by
    have := dep_all fun d hd => (h d hd).s.dep
    rw [PyData.depth]
    omega
  rw [SeqAt.shaped, decide_eq_true h1, Bool.and_true]
  exact can_all fun d hd => (h d hd).c
theorem eqv_nil (ds : List PyData) : PyData.eqv (.list ds) (.list []) = ds.isEmpty := by
  cases ds <;> rfl
/-! ### the rows are told -/
theorem sm_row {L : Nat} {r : BR} (h : RowS L r) : Sm (brD r) 4 12011 := by
  refine sm_tuple (ds := [r.1, r.2.1, r.2.2.1, r.2.2.2]) (m := 3) (k := 3000) fun d hd => ?_
  simp only [List.mem_cons, List.not_mem_nil, or_false] at hd
  rcases hd with rfl | rfl | rfl | rfl
  · exact h.m.1
  · exact h.h.s.mono (by decide) (by decide)
  · exact h.b.s.mono (by decide) (by decide)
  · exact h.f.s.mono (by decide) (by decide)
theorem sm_told {L : Nat} {rs : List BR} (h : ∀ r ∈ rs, RowS L r) (n : rs.length ≤ 60) : Sm (toldB rs) 5 800000 := by
  refine (sm_tuple (m := 4) (k := 12011) fun d hd => ?_).mono (Nat.le_refl _) (by rw [List.length_map]; omega)
  obtain ⟨r, hr, rfl⟩ := List.mem_map.mp hd
  exact sm_row (h r hr)
theorem sm_toldL {L : Nat} {rs : List BR} (h : ∀ r ∈ rs, RowS L r) (n : rs.length ≤ 60) : Sm (.list (rs.map brD)) 5 800000 := by
  refine (sm_list (m := 4) (k := 12011) fun d hd => ?_).mono (Nat.le_refl _) (by rw [List.length_map]; omega)
  obtain ⟨r, hr, rfl⟩ := List.mem_map.mp hd
  exact sm_row (h r hr)
theorem BRAt.dp {K : PySem.W.Frag} {H : Hp} {a : Addr} {r : BR} (h : BRAt H a r) : Dp K H (.ref a) (brD r) := by
  obtain ⟨v0, v1, v2, v3, h0, h1, h2, h3, h4⟩ := h
  exact .tup (.inl (.inl h0)) (.cons (Dv.dp _ _ h1) (.cons (Dv.dp _ _ h2) (.cons (Dv.dp _ _ h3) (.cons (Dv.dp _ _ h4) .nil))))
theorem brs_dp {K : PySem.W.Frag} {H : Hp} : ∀ {as : List Addr} {rs : List BR}, as.length = rs.length → (∀ (j : Nat) (a : Addr) (r : BR), as[j]? = some a → rs[j]? = some r → BRAt H a r) → DpAll K H (as.map V.ref) (rs.map brD)
  | [], [], _, _ => .nil
  | [], _ :: _, h, _ => by cases h
  | _ :: _, [], h, _ => by cases h
  | a :: as, r :: rs, h, k => .cons (k 0 a r rfl rfl).dp (brs_dp (Nat.succ.inj h) fun j b q e1 e2 => k (j + 1) b q e1 e2)
theorem shw_told {K : PySem.W.Frag} {H : Hp} {p : Addr} {as : List Addr} {rs : List BR} {L : Nat} (hp : H p = some (.tup (as.map V.ref))) (la : as.length = rs.length) (row : ∀ (j : Nat) (a : Addr) (r : BR), as[j]? = some a → rs[j]? = some r → BRAt H a r) (sm : ∀ r ∈ rs, RowS L r) (n : rs.length ≤ 60) : Shw K H (.ref p) (toldB rs) :=
  (sm_told sm n).shw (.tup (.inl (.inl hp)) (brs_dp la row)) (by decide) (by decide)
theorem LT.shw {K : PySem.W.Frag} {H : Hp} {p : Addr} {as : List Addr} {rs : List BR} {L : Nat} (R : LT H p as rs L) (n : rs.length ≤ 60) : Shw K H (.ref p) (.list (rs.map brD)) :=
  (sm_toldL R.sm n).shw (.lst (.inl (.inl R.h)) (brs_dp R.la R.row)) (by decide) (by decide)
theorem ansW_ok (k : Nat) : PyData.strOk (ansW k) = true := by
  unfold ansW
  split <;> decide +kernel
theorem fbp_good {rs : List PR} (fb : FirstBadP rs 0) : ∀ r ∈ rs, PairG rs.length r := by
  rcases fb with ⟨all, _⟩ | ⟨j, _, _, e, _⟩
  · exact all
  · omega
theorem ansZ_ok {k : Nat} {d : PyData} (h : k = 0 → PyData.strOk d.shown = true) (hk : k ≤ 60) : PyData.strOk (ansZ k d) = true := by
  unfold ansZ
  split
  · exact h ‹_›
  · exact (sm_int (i := (k : Nat)) (by omega) (by omega)).ok
theorem ne_ans {K : PySem.W.Frag} {H : Hp} {Q : VK} {q1 q2 : Addr} {k k' : Nat} {d : PyData} (h1 : H q1 = some (.lst [.str (ansW k), .str (ansZ k d), .bl true])) (h2 : H q2 = some (.lst [.str (ansW k'), .str (ansZ k' d), .bl true])) (e : k = k') (hd : k = 0 → PyData.strOk d.shown = true) (hk : k ≤ 60) (q : Q (.bl false) H) : rNeD K (.ref q1) (.ref q2) H Q := by
  subst e
  have ow := ansW_ok k
  have oz := ansZ_ok hd hk
  refine ⟨_, _, toldL_dp h1, toldL_dp h2, toldL_shp ow oz, toldL_shp ow oz, ?_⟩
  rw [toldL_eqv]
  exact q
def prD (r : PR) : PyData := .tuple [r.1, r.2]
theorem PrAt.dp {K : PySem.W.Frag} {H : Hp} {a : Addr} {r : PR} (h : PrAt H a r) : Dp K H (.ref a) (prD r) := by
  obtain ⟨v0, v1, h0, h1, h2⟩ := h
  exact .tup (.inl (.inl h0)) (.cons (Dv.dp _ _ h1) (.cons (Dv.dp _ _ h2) .nil))
theorem prs_dp {K : PySem.W.Frag} {H : Hp} : ∀ {as : List Addr} {rs : List PR}, as.length = rs.length → (∀ (j : Nat) (a : Addr) (r : PR), as[j]? = some a → rs[j]? = some r → PrAt H a r) → DpAll K H (as.map V.ref) (rs.map prD)
  | [], [], _, _ => .nil
  | [], _ :: _, h, _ => by cases h
  | _ :: _, [], h, _ => by cases h
  | a :: as, r :: rs, h, k => .cons (k 0 a r rfl rfl).dp (prs_dp (Nat.succ.inj h) fun j b q e1 e2 => k (j + 1) b q e1 e2)
theorem LP.shw {K : PySem.W.Frag} {H : Hp} {p : Addr} {as : List Addr} {rs : List PR} {L : Nat} (R : LP H p as rs L) (n : rs.length ≤ 60) : Shw K H (.ref p) (.list (rs.map prD)) := by
  have sm : Sm (.list (rs.map prD)) 5 800000 := by
    refine (sm_list (m := 4) (k := 6007) fun d hd => ?_).mono (Nat.le_refl _) (by rw [List.length_map]; omega)
    obtain ⟨r, hr, rfl⟩ := List.mem_map.mp hd
    refine sm_tuple (ds := [r.1, r.2]) (m := 3) (k := 3000) fun d hd => ?_
    simp only [List.mem_cons, List.not_mem_nil, or_false] at hd
    rcases hd with rfl | rfl
    · exact (R.sm r hr).2.s.mono (by decide) (by decide)
    · exact (R.sm r hr).1.1
  exact sm.shw (.lst (.inl (.inl R.h)) (prs_dp R.la R.row)) (by decide) (by decide)
theorem shw_ints {K : PySem.W.Frag} {H : Hp} {p : Addr} {l : List Nat} (hp : H p = some (.tup (ni l))) (hl : l.length ≤ 61) (h : ∀ z ∈ l, z ≤ 60) : Shw K H (.ref p) (intsD l) := by
  have sm : Sm (intsD l) 1 2000 := by
    refine (sm_tuple (m := 0) (k := 13) fun d hd => ?_).mono (Nat.le_refl _) (by rw [List.length_map]; omega)
    obtain ⟨m, hm, rfl⟩ := List.mem_map.mp hd
    have := h m hm
    exact sm_int (by omega) (by omega)
  exact sm.shw (.tup (.inl (.inl hp)) (dp_ni _)) (by decide) (by decide)
theorem chain_uniq {bes : List Nat} : ∀ {l l' : List Nat} {f : Nat}, Chain bes f l → Chain bes f l' → l = l'
  | [], [], _, _, _ => rfl
  | [], p :: l, f, h1, ⟨h2, h3, _⟩ => by
    have h1 : f = 0 := h1
    exact absurd (h2.symm.trans h1) h3
  | p :: l, [], f, ⟨h2, h3, _⟩, h1 => by
    have h1 : f = 0 := h1
    exact absurd (h2.symm.trans h1) h3
  | p :: l, q :: l', f, ⟨h1, _, h2⟩, ⟨h3, _, h4⟩ => by
    have e : p = q := h1.symm.trans h3
    subst e
    rw [chain_uniq h2 h4]
theorem LT.again {H : Hp} {p q : Addr} {as : List Addr} {rs : List BR} {L : Nat} (R : LT H p as rs L) (nq : H q = none) : LT (upd H q (.lst (as.map V.ref))) q as rs L := (LTn.new R nq).lt
theorem LP.again {H : Hp} {p q : Addr} {as : List Addr} {rs : List PR} {L : Nat} (R : LP H p as rs L) (nq : H q = none) : LP (upd H q (.lst (as.map V.ref))) q as rs L := ⟨upd_same, R.la, fun j a r e1 e2 => (R.row j a r e1 e2).same (same_new nq), R.sm⟩
local macro_rules | `(tactic| walk_at "rd") => `(tactic| try simp only [cx_K, tDIn, tDNotIn, tDPop1, tDNewK, Fx.tSMeth, Fx.tSMethT, Fx.rSetO, Fx.rListOL, Fx.rIterL, tCallK, iKeys, tMethK, tLstRg, tRg1, tRg2, L2.start, List.map_cons, List.map_nil, List.length_cons, List.length_nil, List.cons_append, List.nil_append, List.append_nil, Nat.reduceAdd, Nat.reduceSub, List.replicate, tSeq, tIfS, tTest, tB, tOp, tVar, tC, tAsg, gName, tRet, tRetN, tDrop, tCB, tCons, tNil, rI0, rI, tNext, tNot, tAnd, tOr, tIf, tAndV, tOrV, tNotV, tUn, rU, tDGet, sDPut, tCall, tCallS, tTup, tLst, tSl, tPart, tNoPart, rSlS, tM0, tM1, rIxLt, rIxTt, rIxSt, rLenL, rLenT, rLenS, rIntI, rOrd, rSlLt, tBM, tBM0, rAppend, rExtend, rRep, rCat, rIxQ, rLenQ, rTupQ, rTupL, rMin2, rAnd255, rNonIs, rNonNot, rNeL, rNeT, rEqT, rIns, rPopAt, rSetL, gSub, rExtQ, rSlQ, iList, iTup, iRng1, iRng2, iStr, tFld, sFld, gFld, gTup, tMethT, tMakeT, tCallE, rIntB, rOwnEq, rRepr, rIsI, rLenO, rInO, rNotInO, rBinO, rNeO, rIxO, rListO, rIterT, rSortS, Fx.rInS, rIdxT, rIdxL, rListD, tRevL, tDGet2, rLstQ, Fx.rCntS, rIterTN, iOwn, tDead, rIxF, rLenF, rInF, rIdxF, tBMF, rEqF, rTupF, tMake, tMeth, tChain, tDep, tCallO, tBinT, rSortZ, ipZ, cx_w, rLj, rJn, rIsBl, rNoBl, tRaiseFx, tMkFx, tAug, ipI, tCont, tBreak, gCons, gNil, rLstL, rLstT, rAllL, rAnyL, rMulS, Fx.rIsB, tYes, wipe, rEqL, rEq, rNe, scal, tyv_non, tyv_bl, tyv_int, tyv_str, kb_int_int, kb_int_bool, kb_bool_int, kb_bool_bool, kb_str_str, kb_int_str, kb_bool_str, kb_none_str, kb_list_str, kb_tuple_str, kb_dict_str, kb_tuple_tuple, kb_list_list, List.getElem?_cons_zero, List.getElem?_cons_succ, List.set_cons_zero, List.set_cons_succ, Option.some.injEq, V.int.injEq, V.str.injEq, V.bl.injEq, V.ref.injEq, V.ty.injEq, HO.lst.injEq, HO.tup.injEq, List.cons.injEq, reduceCtorEq, false_and, and_false, or_false, false_or, exists_false, and_true, true_and, exists_and_left, exists_eq_left, exists_eq_left', exists_eq, exists_eq', and_assoc, ite_dec, ite_ndec, upd_same, if_true, Bool.false_eq_true, if_false, Bool.not_true, Bool.not_false])
section
variable {P : Program} {w : World} {K : PySem.W.Frag} {mg : Str → Option Value} {base : Heap}
theorem ok_is_integer (S : Src K mg "is_integer" s_is_integer) (T : Tx P K mg)   : Cal P w K mg base CX0 1 "is_integer" ["thing", "low", "high"] spIsI := by
  refine S.cal sc_is_integer bn_is_integer (fun vs H Q E h => ?_) (fun f cdv A outer s H vs Q E hr h => ?_)
  · first | (obtain ⟨rfl, _⟩ := h; rfl) | (obtain ⟨_, rfl, _⟩ := h; rfl) | (obtain ⟨_, _, rfl, _⟩ := h; rfl) | (obtain ⟨_, _, _, rfl, _⟩ := h; rfl) | (obtain ⟨_, _, _, _, rfl, _⟩ := h; rfl) | (obtain ⟨_, _, _, _, _, rfl, _⟩ := h; rfl) | (obtain ⟨_, _, _, _, _, _, rfl, _⟩ := h; rfl) | (obtain ⟨_, _, _, _, _, _, _, rfl, _⟩ := h; rfl) | (obtain ⟨_, _, _, _, _, _, _, _, rfl, _⟩ := h; rfl) | (obtain ⟨_, _, _, _, _, _, _, _, _, rfl, _⟩ := h; rfl) | (obtain ⟨_, _, _, _, _, _, _, _, _, _, rfl, _⟩ := h; rfl) | (obtain ⟨_, _, _, _, _, _, _, _, _, _, _, rfl, _⟩ := h; rfl) | (obtain ⟨_, _, _, _, _, _, _, _, _, _, _, _, rfl, _⟩ := h; rfl)
  · skip
    refine ⟨_, (pss_one (ps_ret (pe_and (Fx.pe_cB Fx.is_B T.b_isinstance (by decide +kernel) (Fx.pa_c (pv 0) (Fx.pa_c (pe_bltn (v := .ty "int") (by rfl) T.b_int (by decide +kernel) rfl) pa_nil))) (pe_and (pe_not (Fx.pe_cB Fx.is_B T.b_isinstance (by decide +kernel) (Fx.pa_c (pv 0) (Fx.pa_c (pe_bltn (v := .ty "bool") (by rfl) T.b_bool (by decide +kernel) rfl) pa_nil)))) (pe_one (pe_chain op_le op_le (pv 1) (pv 0) (pv 2))))))), ?_⟩
    obtain ⟨v, lo, hi, rfl, h⟩ := h
    walk_at "rd"
    rcases h with ⟨i, rfl, h1, h2, q⟩ | ⟨h, q⟩
    · walk_at "rd"
      rw [if_pos h1, decide_eq_true h2]
      exact q
    · rcases h with (⟨b, rfl⟩ | ⟨t, h1, h2⟩) | ⟨i, rfl, h⟩
      · walk_at "rd"
        exact q
      · refine ⟨t, h1, false, h2, ?_⟩
        rw [if_neg (by decide)]
        exact q
      · walk_at "rd"
        refine ite_i (fun g => ?_) (fun g => q)
        rw [decide_eq_false (fun g2 => h ⟨g, g2⟩)]
        exact q
end
section
variable {P : Program} {w : World} {K : PySem.W.Frag} {mg : Str → Option Value} {base : Heap}
theorem ok_comes_back (S : Src K mg "comes_back" s_comes_back) (T : Tx P K mg)   : Cal P w K mg base CX0 1 "comes_back" ["holders", "thing"] spComesG := by
  refine S.cal sc_comes_back bn_comes_back (fun vs H Q E h => ?_) (fun f cdv A outer s H vs Q E hr h => ?_)
  · first | (obtain ⟨rfl, _⟩ := h; rfl) | (obtain ⟨_, rfl, _⟩ := h; rfl) | (obtain ⟨_, _, rfl, _⟩ := h; rfl) | (obtain ⟨_, _, _, rfl, _⟩ := h; rfl) | (obtain ⟨_, _, _, _, rfl, _⟩ := h; rfl) | (obtain ⟨_, _, _, _, _, rfl, _⟩ := h; rfl) | (obtain ⟨_, _, _, _, _, _, rfl, _⟩ := h; rfl) | (obtain ⟨_, _, _, _, _, _, _, rfl, _⟩ := h; rfl) | (obtain ⟨_, _, _, _, _, _, _, _, rfl, _⟩ := h; rfl) | (obtain ⟨_, _, _, _, _, _, _, _, _, rfl, _⟩ := h; rfl) | (obtain ⟨_, _, _, _, _, _, _, _, _, _, rfl, _⟩ := h; rfl) | (obtain ⟨_, _, _, _, _, _, _, _, _, _, _, rfl, _⟩ := h; rfl) | (obtain ⟨_, _, _, _, _, _, _, _, _, _, _, _, rfl, _⟩ := h; rfl)
  · skip
    refine ⟨_, (pss_cons (ps_set (i := 2) sc_comes_back.nd rfl (Or.inl rfl) (pe_ix Fx.ix_L (pv 0) (pv 1) (fun _ _ => rfl)))
        (pss_cons (ps_for PassesOwn.never rfl (pi_list (pv 0)) (pg_name (i := 3) sc_comes_back.nd rfl (Or.inl rfl)) (pss_cons (ps_if (PW.pt (pw_or (pt_cmpR op_eq (pv 2) pe_int (nomark _)) (pw_or1 (pt_cmpR op_eq (pv 2) (pv 1) (nomark _))))) (pss_one ps_break) pss_nil)
        (pss_one (ps_set (i := 2) sc_comes_back.nd rfl (Or.inl rfl) (pe_ix Fx.ix_L (pv 0) (pv 2) (fun _ _ => rfl))))))
        (pss_one (ps_ret (pe_cmpR op_eq (pv 2) (pv 1) (nomark _)))))), ?_⟩
    obtain ⟨p, hol, n, i, rfl, hp, lh, hb, h0, i1, hi, n60, q⟩ := h
    refine seqI fun K1 k1 => ?_
    walk_at "rd"
    refine ⟨_, hp, _, ni_at (by omega), k1 _ _ ?_⟩
    clear k1
    refine seqI fun K0 k0 => ?_
    have x0 := getD_le (i := i) hb
    have fin : ∀ (at_ : Nat) (v3 : Option V), (decide (at_ = i) = true ↔ Cyc hol i) → K0 [some (.ref p), some (.int (i : Nat)), some (.int (at_ : Nat)), v3] H := fun at_ v3 hc => by
      refine k0 _ _ ?_
      walk_at "rd"
      rw [show decide (((at_ : Nat) : Int) = (i : Nat)) = decide (at_ = i) from decide_eq_decide.mpr (by omega)]
      exact q _ hc
    clear k0
    refine ⟨_, rfl, p, rfl, ⟨_, .inl (.inl hp)⟩, for_list (K := K) (a := p) (xs := ni hol) (fun j σ H' => ∃ v3 : Option V, σ = [some (.ref p), some (.int (i : Nat)), some (.int (itH hol j (hol.getD i 0) : Nat)), v3] ∧ H' = H ∧ ∀ k < j, itH hol k (hol.getD i 0) ≠ 0 ∧ itH hol k (hol.getD i 0) ≠ i) ⟨none, rfl, rfl, fun k hk => by omega⟩ (fun j σ H' _ ⟨_, _, e, _⟩ => by rw [e]; exact .inl (.inl hp)) ?_ ?_⟩
    · rintro j y σ H' hy ⟨v3, rfl, rfl, pre⟩
      refine seqI fun K1 k1 => ?_
      walk_at "rd"
      by_cases g : itH hol j (hol.getD i 0) = 0
      · rw [if_pos (by omega)]
        refine fin _ _ ⟨fun z => ?_, fun ⟨k, hk⟩ => ?_⟩
        · have := of_decide_eq_true z
          omega
        · have hk : itH hol k (hol.getD i 0) = i := hk
          by_cases lt : k < j
          · exact absurd hk (pre k lt).2
          · rw [show k = j + (k - j) by omega, itH_add, g, itH_zero h0] at hk
            omega
      rw [if_neg (by omega)]
      by_cases g2 : itH hol j (hol.getD i 0) = i
      · rw [if_pos (by omega)]
        exact fin _ _ ⟨fun _ => ⟨j, g2⟩, fun _ => decide_eq_true g2⟩
      rw [if_neg (by omega)]
      refine k1 _ _ ?_
      clear k1
      walk_at "rd"
      refine ⟨_, hp, _, ni_at (by have := itH_le hb j _ x0; omega), ?_, fun k hk => ?_⟩
      · rw [itH_add j 1]
        rfl
      · by_cases e : k = j
        · rw [e]
          exact ⟨g, g2⟩
        · exact pre k (by omega)
    · rintro σ H' ⟨v3, rfl, rfl, pre⟩
      rw [ni_len, lh] at pre
      have nv := orbit_never x0 hb pre
      refine fin _ _ ⟨fun z => absurd (of_decide_eq_true z) (nv _), fun ⟨k, hk⟩ => absurd hk (nv k)⟩
end
section
variable {P : Program} {w : World} {K : PySem.W.Frag} {mg : Str → Option Value} {base : Heap}
theorem ok_Tree_MU_initU {f0 : Addr} {fd : FuncData} (F : FunD K "__init__" "Tree.__init__" (defArgs s_Tree_MU_initU) (defBody s_Tree_MU_initU) (defScope s_Tree_MU_initU) [] [] f0 fd) (M : Mk K (He.ga K "Tree") f0) (T : Tx P K mg) (C_is_integer : Cal P w K mg base CX0 1 "is_integer" ["thing", "low", "high"] spIsI) (C_comes_back : Cal P w K mg base CX0 1 "comes_back" ["holders", "thing"] spComesG)  : CalI P w K mg base (L2.CX P w) 3 (He.ga K "Tree") ["self", "rows"] (spTreeG K) := by
  refine ⟨f0, fd, M, F.bindsN bn_Tree_MU_initU, okX F sc_Tree_MU_initU (fun vs H Q E h => ?_) (fun f cdv A outer s H vs Q E hr h => ?_)⟩
  · first | (obtain ⟨rfl, _⟩ := h; rfl) | (obtain ⟨_, rfl, _⟩ := h; rfl) | (obtain ⟨_, _, rfl, _⟩ := h; rfl) | (obtain ⟨_, _, _, rfl, _⟩ := h; rfl) | (obtain ⟨_, _, _, _, rfl, _⟩ := h; rfl) | (obtain ⟨_, _, _, _, _, rfl, _⟩ := h; rfl) | (obtain ⟨_, _, _, _, _, _, rfl, _⟩ := h; rfl) | (obtain ⟨_, _, _, _, _, _, _, rfl, _⟩ := h; rfl) | (obtain ⟨_, _, _, _, _, _, _, _, rfl, _⟩ := h; rfl) | (obtain ⟨_, _, _, _, _, _, _, _, _, rfl, _⟩ := h; rfl) | (obtain ⟨_, _, _, _, _, _, _, _, _, _, rfl, _⟩ := h; rfl) | (obtain ⟨_, _, _, _, _, _, _, _, _, _, _, rfl, _⟩ := h; rfl) | (obtain ⟨_, _, _, _, _, _, _, _, _, _, _, _, rfl, _⟩ := h; rfl)
  · skip
    refine ⟨_, (pss_cons (ps_set (i := 2) sc_Tree_MU_initU.nd rfl (Or.inl rfl) (Fx.pe_cB Fx.len_Q T.b_len (by decide +kernel) (Fx.pa_c (pv 1) pa_nil)))
        (pss_cons (ps_if (pt_not (pt_chain op_le op_le pe_int (pv 2) (Fx.pe_cst T.c_MOST_THINGS))) (pss_one (Fx.ps_raiseFx rfl T.x_BadTree T.g_BadTree T.b_super hr (takes_of rfl rfl rfl rfl) (Fx.pa_c pe_int pa_nil))) pss_nil)
        (pss_cons (ps_for (passes_of rfl) rfl (Fx.pi_enumQ rfl T.b_enumerate (Fx.pa_c (pv 1) pa_nil)) (pg_tup rfl (pgs_cons (pg_name (i := 3) sc_Tree_MU_initU.nd rfl (Or.inl rfl)) (pgs_cons (pg_tup rfl (pgs_cons (pg_name (i := 4) sc_Tree_MU_initU.nd rfl (Or.inl rfl)) (pgs_cons (pg_name (i := 5) sc_Tree_MU_initU.nd rfl (Or.inl rfl)) pgs_nil))) pgs_nil))) (pss_cons (ps_if (PW.pt (pw_or (pt_not (pt_val (Fx.pe_cal C_is_integer (hr.mono (by decide)) pass0 (Fx.pa_c (pv 4) (Fx.pa_c pe_int (Fx.pa_c (pv 2) pa_nil)))))) (pw_or1 (pt_not (pt_val (Fx.pe_cB Fx.is_B T.b_isinstance (by decide +kernel) (Fx.pa_c (pv 5) (Fx.pa_c (pe_bltn (v := .ty "tuple") (by rfl) T.b_tuple (by decide +kernel) rfl) pa_nil)))))))) (pss_one (Fx.ps_raiseFx rfl T.x_BadTree T.g_BadTree T.b_super hr (takes_of rfl rfl rfl rfl) (Fx.pa_c (pe_op op_add (pv 3) pe_int) pa_nil))) pss_nil)
        (pss_one (ps_if (pt_not (pt_val (Fx.pe_cB (Fx.all_L rfl) T.b_all (by decide +kernel) (Fx.pa_c (pe_lc (own := [("mark", 6)]) rfl sc_Tree_MU_initU.nd (Fx.pi_Q (pv 5)) (blkOk_by (N := N_Tree_MU_initU) (sc := defScope s_Tree_MU_initU) (by decide +kernel)) (fun _ _ _ _ _ => (pg_name (i := 6) sc_Tree_MU_initU.nd rfl (Or.inl rfl))) (fun _ _ _ _ _ => pts_nil) (fun _ _ _ _ _ => (Fx.pe_cal C_is_integer (hr.mono (by decide)) pass0 (Fx.pa_c (pv 6) (Fx.pa_c pe_int (Fx.pa_c (pe_op op_sub (Fx.pe_cst T.c_MOST_MARKS) pe_int) pa_nil)))))) pa_nil)))) (pss_one (Fx.ps_raiseFx rfl T.x_BadTree T.g_BadTree T.b_super hr (takes_of rfl rfl rfl rfl) (Fx.pa_c (pe_op op_add (pv 3) pe_int) pa_nil))) pss_nil))))
        (pss_cons (ps_fld (pv 0) (pe_op op_cat (pe_lst (Fx.pa_c pe_int pa_nil)) (pe_lc (own := [("row", 7)]) rfl sc_Tree_MU_initU.nd (Fx.pi_Q (pv 1)) (blkOk_by (N := N_Tree_MU_initU) (sc := defScope s_Tree_MU_initU) (by decide +kernel)) (fun _ _ _ _ _ => (pg_name (i := 7) sc_Tree_MU_initU.nd rfl (Or.inl rfl))) (fun _ _ _ _ _ => pts_nil) (fun _ _ _ _ _ => (pe_ix Fx.ix_T (pv 7) pe_int (fun _ _ => rfl))))) rfl)
        (pss_cons (ps_for (passes_of rfl) rfl (pi_range2 rfl T.b_range (Fx.pa_c pe_int (Fx.pa_c (pe_op op_add (pv 2) pe_int) pa_nil))) (pg_name (i := 8) sc_Tree_MU_initU.nd rfl (Or.inl rfl)) (pss_one (ps_if (pt_val (Fx.pe_cal C_comes_back (hr.mono (by decide)) pass0 (Fx.pa_c (Fx.pe_fldK (K := K) rfl (pv 0) rfl) (Fx.pa_c (pv 8) pa_nil)))) (pss_one (Fx.ps_raiseFx rfl T.x_BadTree T.g_BadTree T.b_super hr (takes_of rfl rfl rfl rfl) (Fx.pa_c (pv 8) pa_nil))) pss_nil)))
        (pss_cons (ps_fld (pv 0) (pe_lst (Fx.pa_c pe_dnewK pa_nil)) rfl)
        (pss_cons (ps_for (passes_of rfl) rfl (Fx.pi_Q (pv 1)) (pg_name (i := 7) sc_Tree_MU_initU.nd rfl (Or.inl rfl)) (pss_cons (ps_set (i := 9) sc_Tree_MU_initU.nd rfl (Or.inl rfl) pe_dnewK)
        (pss_cons (ps_for (passes_of rfl) rfl (Fx.pi_Q (pe_ix Fx.ix_T (pv 7) pe_int (fun _ _ => rfl))) (pg_name (i := 6) sc_Tree_MU_initU.nd rfl (Or.inl rfl)) (pss_one (ps_dput (hu_of hr) (pv 9) (pv 6) pe_bl rfl)))
        (pss_one (ps_expr (pe_bm PySem.F.plainAttrs_list PySem.F.slot_list_append PySem.F.type_list_append mt_append (Fx.pe_fldK (K := K) rfl (pv 0) rfl) (Fx.pa_c (pv 9) pa_nil)))))))
        (pss_cons (ps_fld (pv 0) (pe_op op_rep (pe_lst (Fx.pa_c pe_int pa_nil)) (pe_op op_add (pv 2) pe_int)) rfl)
        (pss_cons (ps_fld (pv 0) (pe_op op_rep (pe_lst (Fx.pa_c pe_int pa_nil)) (pe_op op_add (pv 2) pe_int)) rfl)
        (pss_cons (ps_fld (pv 0) (pe_listRg rfl rfl T.b_list (prg_2 rfl T.b_range pe_int (pe_op op_add (pv 2) pe_int))) rfl)
        (pss_one (ps_for (passes_of rfl) rfl (pi_range3 rfl T.b_range (Fx.pa_c (pv 2) (Fx.pa_c pe_int (Fx.pa_c (pe_un un_neg pe_int) pa_nil)))) (pg_name (i := 8) sc_Tree_MU_initU.nd rfl (Or.inl rfl)) (pss_cons (ps_set (i := 4) sc_Tree_MU_initU.nd rfl (Or.inl rfl) (pe_ix Fx.ix_L (Fx.pe_fldK (K := K) rfl (pv 0) rfl) (pv 8) (fun _ _ => rfl)))
        (pss_one (ps_if (pt_cmpR op_ne (pv 4) pe_int (nomark _)) (pss_cons (ps_asg (pe_ix Fx.ix_L (Fx.pe_fldK (K := K) rfl (pv 0) rfl) (pv 4) (fun _ _ => rfl)) (pg_sub (Fx.pe_fldK (K := K) rfl (pv 0) rfl) (pv 8) set_list))
        (pss_one (ps_asg (pv 8) (pg_sub (Fx.pe_fldK (K := K) rfl (pv 0) rfl) (pv 4) set_list)))) pss_nil))))))))))))))), ?_⟩
    obtain ⟨x, p, dx, as, rs0, rfl, hx, PR0, n1, n60, l40, qe, q⟩ := h
    have hp := PR0.h
    have la0 := PR0.la
    obtain ⟨n, en⟩ : ∃ n, n = rs0.length := ⟨_, rfl⟩
    have eL : ((as.map V.ref).length : Int) = (n : Nat) := by rw [List.length_map, la0, en]
    have Sqs : ∀ {H1 H2 : Hp}, Sq H1 p (as.map V.ref) → Same H1 H2 → Sq H2 p (as.map V.ref) := fun h s => sq_same h s
    refine seqI fun K1 k1 => ?_
    walk_at "rd"
    refine ⟨_, hp, k1 _ _ ?_⟩
    clear k1
    rw [eL]
    refine seqI fun K1 k1 => ?_
    walk_at "rd"
    rw [if_pos (by omega), if_pos (by omega)]
    refine k1 _ _ ?_
    clear k1
    refine seqI fun K0 k0 => ?_
    refine for_enumQ (K := K) (a := p) (xs := as.map V.ref) (fun Q h => ⟨_, rfl, h⟩) hp (fun i σ H' => ∃ v3 v4 v5 : Option V, σ = [some (.ref x), some (.ref p), some (.int (n : Nat)), v3, v4, v5, none, none, none, none] ∧ Same H H' ∧ ∀ j q, j < i → rs0[j]? = some q → PairG rs0.length q) ⟨none, none, none, rfl, Same.refl H, fun j q h => by omega⟩ ?_ ?_ ?_
    · rintro i σ H' ⟨_, _, _, _, s, _⟩ o e
      exact s _ _ e
    · rintro i y T' σ H' hy ⟨v3, v4, v5, rfl, s1, pre⟩ nT
      obtain ⟨a, r, rfl, ha, hr2, hm, hra, hin⟩ := PR0.at_ hy
      have sT := same_new (o := .tup [.int (i : Nat), .ref a]) nT
      have s2 := s1.trans sT
      obtain ⟨w0, w1, h1, h2, h3⟩ := hra.same s2
      have bad : ∀ H' d, ¬ PairG rs0.length r → Same H H' → H' d = none → E (.ref (He.ga K "BadTree")) (some d) (upd H' d (.xd [("thing", .int ((i : Int) + 1))])) := fun H' d no s nd =>
        qe (i + 1) d _ (by omega) (.inr ⟨i, r, hr2, rfl, no, pre⟩) (Kx.of (s.trans (same_new nd))) (s.free nd) upd_same
      refine ⟨T', _, rfl, .inl (.inl upd_same), rfl, _, _, rfl, _, _, rfl, a, _, rfl, .inl (.inl h1), rfl, _, _, rfl, _, _, rfl, rfl, rfl, ?_⟩
      refine seqI fun K1 k1 => ?_
      walk_at "rd"
      rcases h2.ranged 0 n with ⟨e, m, em, rfl, m0, m1⟩ | ⟨e, bad0⟩
      · refine ⟨_, _, _, rfl, .inl ⟨m, rfl, m0, m1, _, rfl, ?_⟩⟩
        rw [if_neg (by decide)]
        obtain ⟨t, ht, hk⟩ := h3.tpd
        refine ⟨t, ht, _, hk, ?_⟩
        cases hT : isTp r.2 with
        | false =>
          rw [if_pos (by decide)]
          refine fun d nd => bad _ d (fun z => ?_) s2 nd
          have z := z.2
          cases e2 : r.2 <;> rw [e2] at z hT <;> first | exact z.elim | cases hT
        | true =>
        rw [if_neg (by decide)]
        refine k1 _ _ ?_
        clear k1
        obtain ⟨ds, e2⟩ : ∃ ds, r.2 = .tuple ds := by
          cases e2 : r.2 with
          | tuple ds => exact ⟨ds, rfl⟩
          | _ => rw [e2] at hT; cases hT
        rw [e2] at h3
        cases h3 with
        | tup hmm hds =>
        rename_i mm xs
        have l40' : ds.length ≤ 40 := by
          have := l40 r hm
          rw [e2] at this
          simpa [mkL] using this
        walk_at "rd"
        refine lcQ (K := K) (a := mm) (xs := xs) (fun j => [V.bl (isI 0 31 (ds.getD j .none))]) rfl (.inr hmm) ?_ ?_
        · intro D nD j y H3 hy h3
          obtain ⟨dj, hdj, hyj⟩ := hds.get hy
          have hj := (List.getElem?_eq_some_iff.mp hy).1
          have ej : ds.getD j .none = dj := by rw [List.getD_eq_getElem?_getD, hdj]; rfl
          have ll := hds.len
          refine ⟨rfl, ?_⟩
          walk_at "rd"
          rcases (hyj.same h3.1).ranged 0 31 with ⟨g, m2, rfl, rfl, a2, b2⟩ | ⟨g, bad2⟩
          · exact ⟨_, _, _, rfl, .inl ⟨m2, rfl, a2, b2, h3.put nD (fun _ => Nat.le_refl _) (by omega) (Same.refl _) (by rw [ej, g])⟩⟩
          · exact ⟨_, _, _, rfl, .inr ⟨bad2, h3.put nD (fun _ => Nat.le_refl _) (by omega) (Same.refl _) (by rw [ej, g])⟩⟩
        intro D H3 nD s3 hD
        rw [flat_one, hds.len] at hD
        refine ⟨D, rfl, (List.range ds.length).map fun j => isI 0 31 (ds.getD j .none), by rw [hD, List.map_map]; rfl, ?_⟩
        cases eA : ((List.range ds.length).map fun j => isI 0 31 (ds.getD j .none)).all id with
        | false =>
          rw [if_pos (by decide)]
          refine fun d nd => bad _ d (fun z => ?_) (s2.trans s3) nd
          have z := z.2
          rw [e2] at z
          rw [List.all_eq_false] at eA
          obtain ⟨c, hc, hc2⟩ := eA
          obtain ⟨j, hj, rfl⟩ := List.mem_map.mp hc
          have hj := List.mem_range.mp hj
          refine hc2 (z _ ?_)
          rw [List.getD_eq_getElem?_getD, List.getElem?_eq_getElem hj]
          exact List.getElem_mem hj
        | true =>
          rw [if_neg (by decide)]
          refine ⟨s2.trans s3, fun j z hj hz => ?_⟩
          by_cases ej : j = i
          · rw [ej, hr2] at hz
            cases hz
            refine ⟨by rw [← en]; exact e, ?_⟩
            rw [e2]
            intro d hd
            obtain ⟨j, hj⟩ := List.getElem?_of_mem hd
            have hl := (List.getElem?_eq_some_iff.mp hj).1
            have := List.all_eq_true.mp eA _ (List.mem_map.mpr ⟨j, List.mem_range.mpr hl, rfl⟩)
            rw [List.getD_eq_getElem?_getD, hj] at this
            exact this
          · exact pre j z (by omega) hz
      · refine ⟨_, _, _, rfl, .inr ⟨bad0, _, rfl, ?_⟩⟩
        rw [if_pos (by decide)]
        refine fun d nd => bad _ d (fun z => ?_) s2 nd
        have z := z.1
        rw [← en, e] at z
        cases z
    rintro σ H1 ⟨v3, v4, v5, rfl, s1, pre⟩
    refine k0 _ _ ?_
    clear k0
    have all : ∀ r ∈ rs0, PairG rs0.length r := fun r hr => by
      obtain ⟨j, hj⟩ := List.getElem?_of_mem hr
      exact pre j r (by rw [List.length_map, la0]; exact (List.getElem?_eq_some_iff.mp hj).1) hj
    clear pre
    obtain ⟨rs, ers⟩ : ∃ rs, rs = nat2 rs0 := ⟨_, rfl⟩
    have Rlen : rs.length = n := by rw [ers, nat2, List.length_map, en]
    have la : as.length = rs.length := by rw [Rlen, la0, en]
    have hr : ∀ (j : Nat) (a : Addr) (r : Nat × List Nat), as[j]? = some a → rs[j]? = some r → PairAt H a r := fun j a r e1 e2 => by
      rw [ers, nat2, List.getElem?_map] at e2
      have hj := (List.getElem?_eq_some_iff.mp e1).1
      rw [List.getElem?_eq_getElem (by omega)] at e2
      cases e2
      obtain ⟨w0, w1, g0, g1, g2⟩ := PR0.row j a _ e1 (List.getElem?_eq_getElem (by omega))
      have ok := all _ (List.getElem_mem (by omega : j < rs0.length))
      obtain ⟨rfl, _⟩ := g1.nat ok.1
      exact pair_nat g0 g2 ok.2
    have rowA : ∀ {j : Nat} {y : V}, (as.map V.ref)[j]? = some y → ∃ a r, y = .ref a ∧ as[j]? = some a ∧ rs[j]? = some r ∧ r ∈ rs ∧ PairAt H a r ∧ j < n := fun {j y} hy => by
      have hj := (List.getElem?_eq_some_iff.mp hy).1
      rw [List.length_map] at hj
      rw [List.getElem?_map, List.getElem?_eq_getElem hj] at hy
      cases hy
      have hj2 : j < rs.length := by omega
      exact ⟨as[j], rs[j], rfl, List.getElem?_eq_getElem hj, List.getElem?_eq_getElem hj2, List.getElem_mem hj2, hr j _ _ (List.getElem?_eq_getElem hj) (List.getElem?_eq_getElem hj2), by rw [← Rlen]; exact hj2⟩
    have Rrow : ∀ r ∈ rs, r.1 ≤ n ∧ r.2.length ≤ 40 ∧ ∀ m ∈ r.2, m < 32 := fun r hr => by
      rw [ers] at hr
      obtain ⟨r0, h0, rfl⟩ := List.mem_map.mp hr
      have ok := all r0 h0
      exact ⟨by rw [en]; exact natD_le ok.1, l40 r0 h0, mkL_lt ok.2⟩
    have ehol : holP rs0 = 0 :: rs.map fun r => r.1 := by
      rw [ers, nat2, List.map_map]
      rfl
    have zz : 1 + n ≤ sizeLine := Nat.le_trans (by omega : _ ≤ 100) (by decide)
    refine seqI fun K1 k1 => ?_
    walk_at "rd"
    refine ⟨by decide, fun q0 n0 => ?_⟩
    have sA := same_new (o := .lst [.int 0]) n0
    have hq0 : (upd H1 q0 (.lst [.int 0])) q0 = some (.lst [.int 0]) := upd_same
    generalize upd H1 q0 (.lst [.int 0]) = H2 at sA hq0
    have s2 := s1.trans sA
    refine lcQ (K := K) (a := p) (xs := as.map V.ref) (fun i => [V.int ((rs.map fun r => r.1).getD i 0 : Nat)]) rfl (Sqs hp s2) ?_ ?_
    · intro D nD i y H3 hy h3
      obtain ⟨a, r, rfl, ha, hr2, hm, hra, hin⟩ := rowA hy
      obtain ⟨mm, h4, _⟩ := hra
      have h4 := (s2.trans h3.1) _ _ h4
      have e : (rs.map fun r => r.1).getD i 0 = r.1 := by rw [List.getD_eq_getElem?_getD, List.getElem?_map, hr2]; rfl
      refine ⟨rfl, ?_⟩
      walk_at "rd"
      refine ⟨_, h4, _, rfl, ?_⟩
      exact h3.put nD (fun _ => Nat.le_refl _) (by omega) (Same.refl _) (by rw [e])
    intro D H3 nD s3 hD
    rw [flat_one, show (as.map V.ref).length = n by rw [List.length_map, la, Rlen], range_getD (by rw [List.length_map, Rlen])] at hD
    refine ⟨D, rfl, _, s3 _ _ hq0, _, hD, by rw [ni_len, List.length_map, Rlen]; exact zz, fun qh nh => ?_⟩
    obtain ⟨hol, eh⟩ : ∃ hol, hol = 0 :: rs.map fun r => r.1 := ⟨_, rfl⟩
    have e2 : [V.int 0] ++ ni (rs.map fun r => r.1) = ni hol := by rw [eh]; rfl
    rw [e2]
    have s4 := (s2.trans s3).trans (same_new (o := .lst (ni hol)) nh)
    have hh : (upd H3 qh (.lst (ni hol))) qh = some (.lst (ni hol)) := upd_same
    have nh0 : H qh = none := (s2.trans s3).free nh
    generalize upd H3 qh (.lst (ni hol)) = H4 at s4 hh
    clear hD s3 nD hq0 sA s2 n0 nh s1
    refine ⟨_, _, _, s4 _ _ hx, T.cl_Tree, T.n_Tree_holders, by decide, k1 _ _ ?_⟩
    clear k1
    have k5 : Kx x H (upd H4 x (.ins (He.ga K "Tree") dx [("holders", .ref qh)])) := fun a o ne h => by
      rw [upd_ne ne]
      exact s4 _ _ h
    have hx5 : (upd H4 x (.ins (He.ga K "Tree") dx [("holders", .ref qh)])) x = some (.ins (He.ga K "Tree") dx [("holders", .ref qh)]) := upd_same
    have hh5 : (upd H4 x (.ins (He.ga K "Tree") dx [("holders", .ref qh)])) qh = some (.lst (ni hol)) := by
      rw [upd_ne (fun e => by rw [e, hx] at nh0; cases nh0)]
      exact hh
    show tSeq _ _ _ _ (upd H4 x (.ins (He.ga K "Tree") dx [("holders", .ref qh)]))
    generalize upd H4 x (.ins (He.ga K "Tree") dx [("holders", .ref qh)]) = H5 at k5 hx5 hh5
    clear hh s4
    have lh : hol.length = n + 1 := by rw [eh, List.length_cons, List.length_map, Rlen]
    have vh : ∀ v ∈ hol, v ≤ n := fun v hv => by
      rw [eh] at hv
      rcases List.mem_cons.mp hv with rfl | hv
      · exact Nat.zero_le _
      · obtain ⟨r, hr, rfl⟩ := List.mem_map.mp hv
        exact (Rrow r hr).1
    have h00 : hol.getD 0 0 = 0 := by rw [eh]; rfl
    have ehP : holP rs0 = hol := by rw [eh, ehol]
    refine seqI fun K0 k0 => ?_
    refine ⟨_, rfl, (n : Int), 1, rfl, rfl, 1, (n : Int) + 1, rfl, ⟨by decide, by decide, by omega, by omega⟩, ?_⟩
    rw [show ((n : Int) + 1 - 1).toNat = n by omega]
    refine for_range (lo := 1) (n := n) (fun i σ H' => ∃ v8 : Option V, σ = [some (.ref x), some (.ref p), some (.int (n : Nat)), v3, v4, v5, none, none, v8, none] ∧ Same H5 H' ∧ ∀ j < i, ¬ Cyc hol (j + 1)) ⟨none, rfl, Same.refl _, fun j hj => by omega⟩ ?_ ?_
    · rintro i σ H' hi ⟨v8, rfl, s1, pre⟩
      walk_at "rd"
      refine ⟨_, _, _, s1 _ _ hx5, T.cl_Tree, T.n_Tree_holders, _, rfl, qh, hol, n, i + 1, by rw [show (1 : Int) + (i : Nat) = ((i + 1 : Nat) : Int) by omega], s1 _ _ hh5, lh, vh, h00, by omega, by omega, by omega, fun c hc => ⟨_, rfl, ?_⟩⟩
      cases c with
      | true =>
        rw [if_pos rfl]
        refine fun d nd => qe (i + 1) d _ (by omega) (.inl ⟨all, .inr ⟨i, by rw [← en]; exact hi, rfl, by rw [ehP]; exact hc.mp rfl, fun j hj => by rw [ehP]; exact pre j hj⟩⟩) (fun a o ne h => ?_) ?_ ?_
        · have h1 := s1 _ _ (k5 a o ne h)
          rw [upd_ne (fun e => by rw [e, nd] at h1; cases h1)]
          exact h1
        · exact k5.free hx5 (s1.free nd)
        · rw [upd_same, show (1 : Int) + (i : Nat) = ((i + 1 : Nat) : Int) by omega]
      | false =>
        rw [if_neg (by decide)]
        refine ⟨s1, fun j hj => ?_⟩
        by_cases e : j = i
        · rw [e]
          exact fun z => Bool.noConfusion (hc.mpr z)
        · exact pre j (by omega)
    rintro σ H6 ⟨v8, rfl, s6, nocyc⟩
    refine k0 _ _ ?_
    clear k0
    have k6 : Kx x H H6 := fun a o ne h => s6 _ _ (k5 a o ne h)
    have hx6 := s6 _ _ hx5
    have hh6 := s6 _ _ hh5
    clear k5 hx5 hh5 s6
    have R : PairsOk rs n := ⟨Rlen, by omega, by omega, Rrow, by
      rw [← eh]
      exact rank_of_it (N := n + 1) vh h00 (no_cyc vh h00 fun t t1 t2 => by
        have := nocyc (t - 1) (by omega)
        rw [show t - 1 + 1 = t by omega] at this
        exact this)⟩
    have q : ∀ A T H', Kx x H H' → (∀ a ∈ A.own, H a = none) → TreeAt K H' x A T → TrOk T → T.hol = (0 :: rs.map fun r => r.1) → T.mks = mks0 rs → Forest T (rows0 rs n) → Q .non H' := fun A T H' a b c d e f g =>
      q (.inl ⟨all, .inl ⟨rfl, fun j hj => by rw [ehP]; exact nocyc j (by rw [en]; exact hj)⟩⟩) A T H' a b c d (by rw [e, ehol]) (by rw [f, ers]) (by rw [← ers, ← en]; exact g)
    have n60 : n ≤ 60 := R.n60
    have n1 : 1 ≤ n := R.n1
    clear nocyc all qe l40 PR0 ehP h00
    refine seqI fun K1 k1 => ?_
    walk_at "rd"
    intro d0 nd0
    have sd := same_new (o := .dK []) nd0
    have hd0 : (upd H6 d0 (.dK [])) d0 = some (.dK []) := upd_same
    have nd00 := k6.free hx6 nd0
    generalize upd H6 d0 (.dK []) = H7 at sd hd0
    refine ⟨by decide, fun mr nmr => ?_⟩
    have sm := same_new (o := .lst [.ref d0]) nmr
    have hmr : (upd H7 mr (.lst [.ref d0])) mr = some (.lst [.ref d0]) := upd_same
    have nmr6 := sd.free nmr
    have nmr0 := k6.free hx6 nmr6
    have hd0 := sm _ _ hd0
    have s67 := sd.trans sm
    generalize upd H7 mr (.lst [.ref d0]) = H8 at s67 hmr hd0
    clear nmr sd sm
    refine ⟨_, _, _, s67 _ _ hx6, T.cl_Tree, T.n_Tree_mark_rows, (by show 1 < 1000; decide), k1 _ _ ?_⟩
    clear k1
    have hx8 := s67 _ _ hx6
    have hh8 := s67 _ _ hh6
    have k8 : Kx x H H8 := fun a o ne h => s67 _ _ (k6 a o ne h)
    have k9 : Kx x H (upd H8 x (.ins (He.ga K "Tree") dx [("holders", .ref qh), ("mark_rows", .ref mr)])) := fun a o ne h => by
      rw [upd_ne ne]
      exact k8 a o ne h
    have hx9 : (upd H8 x (.ins (He.ga K "Tree") dx [("holders", .ref qh), ("mark_rows", .ref mr)])) x = some (.ins (He.ga K "Tree") dx [("holders", .ref qh), ("mark_rows", .ref mr)]) := upd_same
    have hh9 : (upd H8 x (.ins (He.ga K "Tree") dx [("holders", .ref qh), ("mark_rows", .ref mr)])) qh = some (.lst (ni hol)) := by
      rw [upd_ne (ne_of hh8 hx8 (by intro z; cases z))]
      exact hh8
    have hm9 : (upd H8 x (.ins (He.ga K "Tree") dx [("holders", .ref qh), ("mark_rows", .ref mr)])) mr = some (.lst [.ref d0]) := by
      rw [upd_ne (ne_of hmr hx8 (by intro z; cases z))]
      exact hmr
    have hd9 : (upd H8 x (.ins (He.ga K "Tree") dx [("holders", .ref qh), ("mark_rows", .ref mr)])) d0 = some (.dK []) := by
      rw [upd_ne (ne_of hd0 hx8 (by intro z; cases z))]
      exact hd0
    show tSeq _ _ _ _ (upd H8 x (.ins (He.ga K "Tree") dx [("holders", .ref qh), ("mark_rows", .ref mr)]))
    generalize upd H8 x (.ins (He.ga K "Tree") dx [("holders", .ref qh), ("mark_rows", .ref mr)]) = H9 at k9 hx9 hh9 hm9 hd9
    have qm : qh ≠ mr := fun e => by rw [e, nmr6] at hh6; cases hh6
    clear k8 hx8 hh8 hmr hd0 s67 nd0 k6 hx6 hh6 nmr6
    refine seqI fun K0 k0 => ?_
    refine forA (K := K) (x := x) (Hb := H) (a := p) (xs := as.map V.ref) hx rfl (hp.elim (fun h => .inl (.inl (.inl h))) fun h => .inr (.inl (.inl h))) (fun i σ H' => ∃ (v6 v7 v9 : Option V) (ds : List Addr), σ = [some (.ref x), some (.ref p), some (.int (n : Nat)), v3, v4, v5, v6, v7, v8, v9] ∧ ds.length = i + 1 ∧ H' mr = some (.lst (ds.map V.ref)) ∧ (∀ (j : Nat) (d : Addr) (l : List Nat), ds[j]? = some d → (mks0 rs)[j]? = some l → H' d = some (.dK (mkv l))) ∧ ds.Nodup ∧ (∀ d ∈ ds, H d = none) ∧ Kx x H H' ∧ H' x = some (.ins (He.ga K "Tree") dx [("holders", .ref qh), ("mark_rows", .ref mr)]) ∧ H' qh = some (.lst (ni hol))) ?_ (fun i σ H' ⟨_, _, _, _, _, _, _, _, _, _, k, _⟩ => k) ?_ ?_
    · refine ⟨none, none, none, [d0], rfl, rfl, hm9, fun j d l e1 e2 => ?_, by simp, fun d hd => by rw [List.mem_singleton.mp hd]; exact nd00, k9, hx9, hh9⟩
      cases j with
      | zero =>
        cases e1
        cases e2
        exact hd9
      | succ j => cases e1
    · rintro i y σ H' hy ⟨v6, v7, v9, ds, rfl, ld, hm, hds, nds, fds, kx, hx', hh'⟩
      obtain ⟨a, r, rfl, ha, hr2, hmem, ⟨m, h1, h2⟩, hin⟩ := rowA hy
      have h1 := kx _ _ (ne_of h1 hx (by intro z; cases z)) h1
      have h2 := kx _ _ (ne_of h2 hx (by intro z; cases z)) h2
      refine seqI fun K1 k1 => ?_
      walk_at "rd"
      intro d nd
      refine k1 _ _ ?_
      clear k1
      have sd := same_new (o := .dK []) nd
      have nd0 := kx.free hx' nd
      refine seqI fun K1 k1 => ?_
      have dne : ∀ {a : Addr} {o : HO}, H' a = some o → a ≠ d := fun h e => by rw [e, nd] at h; cases h
      refine .inr ⟨_, rfl, a, 1, _, rfl, rfl, sd _ _ h1, _, rfl, m, rfl, ⟨_, .inl (.inl (sd _ _ h2))⟩, for_tup (K := K) (a := m) (xs := ni r.2) (fun j σ H2 => ∃ v6 : Option V, σ = [some (.ref x), some (.ref p), some (.int (n : Nat)), v3, v4, v5, v6, some (.ref a), v8, some (.ref d)] ∧ H2 = upd H' d (.dK (mkv (onceL (r.2.take j))))) ⟨v6, rfl, rfl⟩ (fun j σ H2 _ ⟨_, _, e⟩ => by rw [e]; exact .inl (.inl (same_new nd _ _ h2))) ?_ ?_⟩
      · rintro j y σ H2 hy ⟨v6, rfl, rfl⟩
        have hj := (List.getElem?_eq_some_iff.mp hy).1
        rw [ni_len] at hj
        rw [ni_get hj] at hy
        cases hy
        have hj2 : r.2[j]? = some (r.2.getD j 0) := by rw [List.getD_eq_getElem?_getD, List.getElem?_eq_getElem hj]; rfl
        walk_at "rd"
        refine ⟨_, DPut.k (k := .inl ((r.2.getD j 0 : Nat) : Int)) upd_same (by
          rw [mkv, List.length_map]
          have h40 := (R.row r hmem).2.1
          have := nodup_lt (once_ok (r.2.take j)).1 (n := 32) fun z hz => (R.row r hmem).2.2 z (List.mem_of_mem_take (((once_ok (r.2.take j)).2 z).mp hz))
          exact Nat.lt_of_lt_of_le (by omega : _ < 100) (by decide)), ?_⟩
        rw [upd_upd, putK_mkv, once_take hj2]
        split <;> rfl
      · rintro σ H2 ⟨v6, rfl, rfl⟩
        rw [ni_len, List.take_length]
        refine k1 _ _ ?_
        clear k1
        have s2 := same_new (o := .dK (mkv (onceL r.2))) nd
        have hd2 : (upd H' d (.dK (mkv (onceL r.2)))) d = some (.dK (mkv (onceL r.2))) := upd_same
        generalize upd H' d (.dK (mkv (onceL r.2))) = H2 at s2 hd2
        have hm2 := s2 _ _ hm
        walk_at "rd"
        refine ⟨_, _, _, s2 _ _ hx', T.cl_Tree, T.n_Tree_mark_rows, _, rfl, tyL hm2, _, rfl, _, hm2, ?_, ?_⟩
        · rw [List.length_map, ld]
          exact Nat.lt_of_lt_of_le (by omega : _ < 100) (by decide)
        have keep : ∀ {a : Addr} {o : HO}, H2 a = some o → (∀ xs, o ≠ .lst xs) → (upd H2 mr (.lst (ds.map V.ref ++ [.ref d]))) a = some o := fun h no => by
          rw [upd_ne (ne_of h hm2 (fun e => no _ e))]
          exact h
        refine ⟨ds ++ [d], by rw [List.length_append, ld]; rfl, by rw [upd_same, List.map_append]; rfl, fun j d' l e1 e2 => ?_, ?_, fun d' hd' => ?_, fun c o ne h => ?_, keep (s2 _ _ hx') (by intro xs e; cases e), ?_⟩
        · refine keep ?_ (by intro xs e; cases e)
          by_cases hj : j < ds.length
          · rw [List.getElem?_append_left hj] at e1
            exact s2 _ _ (hds j d' l e1 e2)
          · have hj2 := (List.getElem?_eq_some_iff.mp e1).1
            rw [List.length_append, List.length_singleton] at hj2
            have ej : j = ds.length := by omega
            rw [ej, List.getElem?_append_right (Nat.le_refl _), Nat.sub_self] at e1
            cases e1
            rw [ej, ld, mks0, List.getElem?_cons_succ, List.getElem?_map, hr2] at e2
            cases e2
            exact hd2
        · refine List.nodup_append.mpr ⟨nds, by simp, fun a ha b hb e => ?_⟩
          rw [List.mem_singleton.mp hb] at e
          obtain ⟨j, hj⟩ := List.getElem?_of_mem ha
          have hl : j < (mks0 rs).length := by
            have := (List.getElem?_eq_some_iff.mp hj).1
            rw [mks0, List.length_cons, List.length_map, R.len]
            omega
          exact dne (hds j a _ hj (List.getElem?_eq_getElem hl)) e
        · rcases List.mem_append.mp hd' with h | h
          · exact fds d' h
          · rw [List.mem_singleton.mp h]
            exact nd0
        · have hc := s2 _ _ (kx c o ne h)
          rw [upd_ne (fun e => by rw [e, nmr0] at h; cases h)]
          exact hc
        · rw [upd_ne qm]
          exact s2 _ _ hh'
    rintro σ H10 ⟨v6, v7, v9, ds, rfl, ld, hm, hds, nds, fds, k10, hx10, hh10⟩
    refine k0 _ _ ?_
    clear k0
    rw [List.length_map, la, R.len] at ld
    have z60 : ((n : Nat) : Int) + 1 < 2 ^ 63 := by omega
    have eN : ((n : Nat) : Int) + 1 = ((n + 1 : Nat) : Int) := by omega
    have eR := rep_flat n
    have sz1 : 1 * ((n : Int) + 1).toNat ≤ sizeLine := Nat.le_trans (by omega : _ ≤ 100) (by decide)
    refine seqI fun K1 k1 => ?_
    walk_at "rd"
    refine ⟨by decide, fun l0 nl0 => ⟨by omega, z60, sz1, fun qb nqb => ?_⟩⟩
    rw [eR]
    have s1 := same_new (o := .lst [.int 0]) nl0
    have s2 := s1.trans (same_new (o := .lst (ni (List.replicate (n + 1) 0))) nqb)
    have hb2 : (upd (upd H10 l0 (.lst [.int 0])) qb (.lst (ni (List.replicate (n + 1) 0)))) qb = some (.lst (ni (List.replicate (n + 1) 0))) := upd_same
    have nqb10 := s1.free nqb
    generalize upd (upd H10 l0 (.lst [.int 0])) qb (.lst (ni (List.replicate (n + 1) 0))) = H11 at s2 hb2
    refine ⟨_, _, _, s2 _ _ hx10, T.cl_Tree, T.n_Tree_besides, (by show 2 < 1000; decide), k1 _ _ ?_⟩
    clear k1 nqb s1
    have k12 : Kx x H (upd H11 x (.ins (He.ga K "Tree") dx [("holders", .ref qh), ("mark_rows", .ref mr), ("besides", .ref qb)])) := fun a o ne h => by
      rw [upd_ne ne]
      exact s2 _ _ (k10 a o ne h)
    have g12 : ∀ {a : Addr} {o : HO}, H10 a = some o → (∀ C dx fs, o ≠ .ins C dx fs) → (upd H11 x (.ins (He.ga K "Tree") dx [("holders", .ref qh), ("mark_rows", .ref mr), ("besides", .ref qb)])) a = some o := fun h no => by
      rw [upd_ne (ne_of h hx10 (fun e => no _ _ _ e))]
      exact s2 _ _ h
    have hb12 : (upd H11 x (.ins (He.ga K "Tree") dx [("holders", .ref qh), ("mark_rows", .ref mr), ("besides", .ref qb)])) qb = some (.lst (ni (List.replicate (n + 1) 0))) := by
      rw [upd_ne (ne_of hb2 (s2 _ _ hx10) (by intro z; cases z))]
      exact hb2
    have hx12 : (upd H11 x (.ins (He.ga K "Tree") dx [("holders", .ref qh), ("mark_rows", .ref mr), ("besides", .ref qb)])) x = some (.ins (He.ga K "Tree") dx [("holders", .ref qh), ("mark_rows", .ref mr), ("besides", .ref qb)]) := upd_same
    have hh12 := g12 hh10 (by intro _ _ _ e; cases e)
    have hm12 := g12 hm (by intro _ _ _ e; cases e)
    have hds12 : ∀ (j : Nat) (d : Addr) (l : List Nat), ds[j]? = some d → (mks0 rs)[j]? = some l → _ := fun j d l e1 e2 => g12 (hds j d l e1 e2) (by intro _ _ _ e; cases e)
    have nqb0 := k10.free hx10 nqb10
    have ebh : qh ≠ qb := fun e => by rw [e, nqb10] at hh10; cases hh10
    have ebm : mr ≠ qb := fun e => by rw [e, nqb10] at hm; cases hm
    show tSeq _ _ _ _ (upd H11 x (.ins (He.ga K "Tree") dx [("holders", .ref qh), ("mark_rows", .ref mr), ("besides", .ref qb)]))
    generalize upd H11 x (.ins (He.ga K "Tree") dx [("holders", .ref qh), ("mark_rows", .ref mr), ("besides", .ref qb)]) = H12 at k12 hb12 hx12 hh12 hm12 hds12
    clear g12 hb2 s2 hx10 hh10 hm hds k10 nqb10 hx9 hh9 hm9 hd9 k9
    refine seqI fun K1 k1 => ?_
    walk_at "rd"
    refine ⟨by decide, fun l1 nl1 => ⟨by omega, z60, sz1, fun qf nqf => ?_⟩⟩
    rw [eR]
    have s1 := same_new (o := .lst [.int 0]) nl1
    have s2 := s1.trans (same_new (o := .lst (ni (List.replicate (n + 1) 0))) nqf)
    have hf2 : (upd (upd H12 l1 (.lst [.int 0])) qf (.lst (ni (List.replicate (n + 1) 0)))) qf = some (.lst (ni (List.replicate (n + 1) 0))) := upd_same
    have nqf12 := s1.free nqf
    generalize upd (upd H12 l1 (.lst [.int 0])) qf (.lst (ni (List.replicate (n + 1) 0))) = H13 at s2 hf2
    refine ⟨_, _, _, s2 _ _ hx12, T.cl_Tree, T.n_Tree_firsts, (by show 3 < 1000; decide), k1 _ _ ?_⟩
    clear k1 nqf s1
    have k14 : Kx x H (upd H13 x (.ins (He.ga K "Tree") dx [("holders", .ref qh), ("mark_rows", .ref mr), ("besides", .ref qb), ("firsts", .ref qf)])) := fun a o ne h => by
      rw [upd_ne ne]
      exact s2 _ _ (k12 a o ne h)
    have g14 : ∀ {a : Addr} {o : HO}, H12 a = some o → (∀ C dx fs, o ≠ .ins C dx fs) → (upd H13 x (.ins (He.ga K "Tree") dx [("holders", .ref qh), ("mark_rows", .ref mr), ("besides", .ref qb), ("firsts", .ref qf)])) a = some o := fun h no => by
      rw [upd_ne (ne_of h hx12 (fun e => no _ _ _ e))]
      exact s2 _ _ h
    have hf14 : (upd H13 x (.ins (He.ga K "Tree") dx [("holders", .ref qh), ("mark_rows", .ref mr), ("besides", .ref qb), ("firsts", .ref qf)])) qf = some (.lst (ni (List.replicate (n + 1) 0))) := by
      rw [upd_ne (ne_of hf2 (s2 _ _ hx12) (by intro z; cases z))]
      exact hf2
    have hx14 : (upd H13 x (.ins (He.ga K "Tree") dx [("holders", .ref qh), ("mark_rows", .ref mr), ("besides", .ref qb), ("firsts", .ref qf)])) x = some (.ins (He.ga K "Tree") dx [("holders", .ref qh), ("mark_rows", .ref mr), ("besides", .ref qb), ("firsts", .ref qf)]) := upd_same
    have hh14 := g14 hh12 (by intro _ _ _ e; cases e)
    have hm14 := g14 hm12 (by intro _ _ _ e; cases e)
    have hb14 := g14 hb12 (by intro _ _ _ e; cases e)
    have hds14 : ∀ (j : Nat) (d : Addr) (l : List Nat), ds[j]? = some d → (mks0 rs)[j]? = some l → _ := fun j d l e1 e2 => g14 (hds12 j d l e1 e2) (by intro _ _ _ e; cases e)
    have nqf0 := k12.free hx12 nqf12
    have efh : qh ≠ qf := fun e => by rw [e, nqf12] at hh12; cases hh12
    have efm : mr ≠ qf := fun e => by rw [e, nqf12] at hm12; cases hm12
    have efb : qb ≠ qf := fun e => by rw [e, nqf12] at hb12; cases hb12
    show tSeq _ _ _ _ (upd H13 x (.ins (He.ga K "Tree") dx [("holders", .ref qh), ("mark_rows", .ref mr), ("besides", .ref qb), ("firsts", .ref qf)]))
    generalize upd H13 x (.ins (He.ga K "Tree") dx [("holders", .ref qh), ("mark_rows", .ref mr), ("besides", .ref qb), ("firsts", .ref qf)]) = H14 at k14 hb14 hx14 hh14 hm14 hds14 hf14
    clear g14 hf2 s2 hx12 hh12 hm12 hds12 k12 nqf12 hb12
    refine seqI fun K1 k1 => ?_
    walk_at "rd"
    refine ⟨⟨by decide, by decide, by omega, by omega, by omega⟩, fun qn nqn => ?_⟩
    rw [rg_ni]
    have s2 := same_new (o := .lst (ni (List.range' 1 n))) nqn
    have hn2 : (upd H14 qn (.lst (ni (List.range' 1 n)))) qn = some (.lst (ni (List.range' 1 n))) := upd_same
    generalize upd H14 qn (.lst (ni (List.range' 1 n))) = H15 at s2 hn2
    refine ⟨_, _, _, s2 _ _ hx14, T.cl_Tree, T.n_Tree_numbers_now, (by show 4 < 1000; decide), k1 _ _ ?_⟩
    clear k1
    have k16 : Kx x H (upd H15 x (.ins (He.ga K "Tree") dx [("holders", .ref qh), ("mark_rows", .ref mr), ("besides", .ref qb), ("firsts", .ref qf), ("numbers_now", .ref qn)])) := fun a o ne h => by
      rw [upd_ne ne]
      exact s2 _ _ (k14 a o ne h)
    have g16 : ∀ {a : Addr} {o : HO}, H14 a = some o → (∀ C dx fs, o ≠ .ins C dx fs) → (upd H15 x (.ins (He.ga K "Tree") dx [("holders", .ref qh), ("mark_rows", .ref mr), ("besides", .ref qb), ("firsts", .ref qf), ("numbers_now", .ref qn)])) a = some o := fun h no => by
      rw [upd_ne (ne_of h hx14 (fun e => no _ _ _ e))]
      exact s2 _ _ h
    have hn16 : (upd H15 x (.ins (He.ga K "Tree") dx [("holders", .ref qh), ("mark_rows", .ref mr), ("besides", .ref qb), ("firsts", .ref qf), ("numbers_now", .ref qn)])) qn = some (.lst (ni (List.range' 1 n))) := by
      rw [upd_ne (ne_of hn2 (s2 _ _ hx14) (by intro z; cases z))]
      exact hn2
    have hx16 : (upd H15 x (.ins (He.ga K "Tree") dx [("holders", .ref qh), ("mark_rows", .ref mr), ("besides", .ref qb), ("firsts", .ref qf), ("numbers_now", .ref qn)])) x = some (.ins (He.ga K "Tree") dx [("holders", .ref qh), ("mark_rows", .ref mr), ("besides", .ref qb), ("firsts", .ref qf), ("numbers_now", .ref qn)]) := upd_same
    have hh16 := g16 hh14 (by intro _ _ _ e; cases e)
    have hm16 := g16 hm14 (by intro _ _ _ e; cases e)
    have hb16 := g16 hb14 (by intro _ _ _ e; cases e)
    have hf16 := g16 hf14 (by intro _ _ _ e; cases e)
    have hds16 : ∀ (j : Nat) (d : Addr) (l : List Nat), ds[j]? = some d → (mks0 rs)[j]? = some l → _ := fun j d l e1 e2 => g16 (hds14 j d l e1 e2) (by intro _ _ _ e; cases e)
    have nqn0 := k14.free hx14 nqn
    have enh : qh ≠ qn := fun e => by rw [e, nqn] at hh14; cases hh14
    have enm : mr ≠ qn := fun e => by rw [e, nqn] at hm14; cases hm14
    have enb : qb ≠ qn := fun e => by rw [e, nqn] at hb14; cases hb14
    have enf : qf ≠ qn := fun e => by rw [e, nqn] at hf14; cases hf14
    show tFor _ _ _ _ _ (upd H15 x (.ins (He.ga K "Tree") dx [("holders", .ref qh), ("mark_rows", .ref mr), ("besides", .ref qb), ("firsts", .ref qf), ("numbers_now", .ref qn)]))
    generalize upd H15 x (.ins (He.ga K "Tree") dx [("holders", .ref qh), ("mark_rows", .ref mr), ("besides", .ref qb), ("firsts", .ref qf), ("numbers_now", .ref qn)]) = H16 at k16 hb16 hx16 hh16 hm16 hds16 hf16 hn16
    clear g16 hn2 s2 hx14 hh14 hm14 hds14 k14 nqn hb14 hf14
    refine forI fun R0 hR => ?_
    refine ⟨_, rfl, 1, rfl, (n : Int), 0, -1, n, rfl, ?_, hR _ _ ?_⟩
    · have := RgC.neg (i := (n : Int)) (j := 0) (by omega) (by omega) (by decide) (by decide)
      rw [show ((n : Int) - 0).toNat = n by omega] at this
      exact this
    clear hR
    refine for_rangeC (lo := (n : Int)) (c := -1) (n := n) (fun i σ H' => ∃ (v4 v8 : Option V) (b f : List Nat), σ = [some (.ref x), some (.ref p), some (.int (n : Nat)), v3, v4, v5, v6, v7, v8, v9] ∧ Fill hol n (n - i) b f ∧ H' qb = some (.lst (ni b)) ∧ H' qf = some (.lst (ni f)) ∧ ∀ a o, a ≠ qb → a ≠ qf → H16 a = some o → H' a = some o) ⟨v4, v8, _, _, rfl, Fill.zero hol n, hb16, hf16, fun a o _ _ h => h⟩ ?_ ?_
    · rintro i σ H' hi ⟨v4, v8, b, f, rfl, FI, hb, hf, kp⟩
      obtain ⟨t, et⟩ : ∃ t, n - i = t + 1 := ⟨n - i - 1, by omega⟩
      have ev : (n : Int) + (i : Nat) * -1 = ((t + 1 : Nat) : Int) := by omega
      have et2 : n - (i + 1) = t := by omega
      rw [ev, et2]
      rw [et] at FI
      have hx' := kp _ _ (ne_of hx16 hb16 (by intro z; cases z)) (ne_of hx16 hf16 (by intro z; cases z)) hx16
      have hh' := kp _ _ ebh efh hh16
      have ht : t + 1 ≤ n := by omega
      refine seqI fun K1 k1 => ?_
      walk_at "rd"
      refine ⟨_, _, _, hx', T.cl_Tree, T.n_Tree_holders, _, rfl, _, rfl, _, hh', _, ni_at (by omega), k1 _ _ ?_⟩
      clear k1
      have hg := getD_le (i := t + 1) vh
      generalize eg : hol.getD (t + 1) 0 = g at hg
      refine ifI fun A2 B2 ka kb => ?_
      walk_at "rd"
      by_cases g0 : g = 0
      · rw [if_pos (by omega)]
        refine kb _ ?_
        walk_at "rd"
        exact ⟨_, _, FI.root ht (by rw [eg, g0]), hb, hf, kp⟩
      rw [if_neg (by omega)]
      refine ka _ ?_
      clear ka kb
      have hx2 : (upd H' qb (.lst (ni (b.set (t + 1) (f.getD g 0))))) x = some (.ins (He.ga K "Tree") dx [("holders", .ref qh), ("mark_rows", .ref mr), ("besides", .ref qb), ("firsts", .ref qf), ("numbers_now", .ref qn)]) := by
        rw [upd_ne (ne_of hx' hb (by intro z; cases z))]
        exact hx'
      have hf2 : (upd H' qb (.lst (ni (b.set (t + 1) (f.getD g 0))))) qf = some (.lst (ni f)) := by
        rw [upd_ne (Ne.symm efb)]
        exact hf
      walk_at "rd"
      refine ⟨_, _, _, hx', T.cl_Tree, T.n_Tree_firsts, _, rfl, _, rfl, _, hf, _, ni_at (by rw [FI.lf]; omega), ?_⟩
      refine ⟨_, _, _, hx', T.cl_Tree, T.n_Tree_besides, _, rfl, _, rfl, _, hb, t + 1, ix_ni (by rw [FI.lb]; omega), ?_⟩
      rw [ni_set]
      refine ⟨_, _, _, hx2, T.cl_Tree, T.n_Tree_firsts, _, rfl, _, rfl, _, hf2, g, ix_ni (by rw [FI.lf]; omega), ?_⟩
      rw [ni_set]
      refine ⟨_, _, FI.step ht eg g0 hg, ?_, upd_same, fun a o e1 e2 h => ?_⟩
      · rw [upd_ne efb, upd_same]
      · rw [upd_ne e2, upd_ne e1]
        exact kp a o e1 e2 h
    · rintro σ H' ⟨v4, v8, b, f, rfl, FI, hb, hf, kp⟩
      rw [Nat.sub_self] at FI
      subst eh
      obtain ⟨ok, F⟩ := FI.tree R
      have en : Tr.n ⟨0 :: rs.map fun r => r.1, b, f, mks0 rs⟩ = n := by
        unfold Tr.n
        rw [List.length_cons, List.length_map, R.len]
        omega
      refine q ⟨qh, mr, qb, qf, qn, ds⟩ _ H' (fun a o ne h => kp a o (fun e => by rw [e, nqb0] at h; cases h) (fun e => by rw [e, nqf0] at h; cases h) (k16 a o ne h)) ?_ ⟨⟨dx, kp _ _ (ne_of hx16 hb16 (by intro z; cases z)) (ne_of hx16 hf16 (by intro z; cases z)) hx16⟩, kp _ _ ebh efh hh16, hb, hf, ?_, kp _ _ ebm efm hm16, ?_, fun j d l e1 e2 => ?_, nds, ?_⟩ ok rfl rfl F
      · intro a ha
        simp only [TrO.own, List.mem_cons] at ha
        rcases ha with rfl | rfl | rfl | rfl | rfl | ha
        · exact nh0
        · exact nmr0
        · exact nqb0
        · exact nqf0
        · exact nqn0
        · exact fds a ha
      · rw [en]
        exact kp _ _ (Ne.symm enb) (Ne.symm enf) hn16
      · show ds.length = (mks0 rs).length
        rw [ld, mks0, List.length_cons, List.length_map, R.len]
      · have h := hds16 j d l e1 e2
        exact kp _ _ (Ne.symm (lst_ne_dk hb16 h)) (Ne.symm (lst_ne_dk hf16 h)) h
      · simp only [List.nodup_cons, List.mem_cons, List.not_mem_nil, or_false, not_or, not_false_eq_true, List.nodup_nil, and_true]
        exact ⟨⟨ebh, efh, enh, qm⟩, ⟨efb, enb, Ne.symm ebm⟩, ⟨enf, Ne.symm efm⟩, Ne.symm enm⟩
end
section
variable {P : Program} {w : World} {K : PySem.W.Frag} {mg : Str → Option Value} {base : Heap}
theorem ok_are_marks (S : Src K mg "are_marks" s_are_marks) (T : Tx P K mg) (C_is_integer : Cal P w K mg base CX0 1 "is_integer" ["thing", "low", "high"] spIsI)  : Cal P w K mg base CX0 2 "are_marks" ["thing", "most"] spAreMG := by
  refine S.cal sc_are_marks bn_are_marks (fun vs H Q E h => ?_) (fun f cdv A outer s H vs Q E hr h => ?_)
  · first | (obtain ⟨rfl, _⟩ := h; rfl) | (obtain ⟨_, rfl, _⟩ := h; rfl) | (obtain ⟨_, _, rfl, _⟩ := h; rfl) | (obtain ⟨_, _, _, rfl, _⟩ := h; rfl) | (obtain ⟨_, _, _, _, rfl, _⟩ := h; rfl) | (obtain ⟨_, _, _, _, _, rfl, _⟩ := h; rfl) | (obtain ⟨_, _, _, _, _, _, rfl, _⟩ := h; rfl) | (obtain ⟨_, _, _, _, _, _, _, rfl, _⟩ := h; rfl) | (obtain ⟨_, _, _, _, _, _, _, _, rfl, _⟩ := h; rfl) | (obtain ⟨_, _, _, _, _, _, _, _, _, rfl, _⟩ := h; rfl) | (obtain ⟨_, _, _, _, _, _, _, _, _, _, rfl, _⟩ := h; rfl) | (obtain ⟨_, _, _, _, _, _, _, _, _, _, _, rfl, _⟩ := h; rfl) | (obtain ⟨_, _, _, _, _, _, _, _, _, _, _, _, rfl, _⟩ := h; rfl)
  · skip
    refine ⟨_, (pss_cons (ps_if (pt_not (pt_val (Fx.pe_cB Fx.is_B T.b_isinstance (by decide +kernel) (Fx.pa_c (pv 0) (Fx.pa_c (pe_bltn (v := .ty "tuple") (by rfl) T.b_tuple (by decide +kernel) rfl) pa_nil))))) (pss_one (ps_ret pe_bl)) pss_nil)
        (pss_cons (ps_for PassesOwn.never rfl (Fx.pi_enumQ rfl T.b_enumerate (Fx.pa_c (pv 0) pa_nil)) (pg_tup rfl (pgs_cons (pg_name (i := 2) sc_are_marks.nd rfl (Or.inl rfl)) (pgs_cons (pg_name (i := 3) sc_are_marks.nd rfl (Or.inl rfl)) pgs_nil))) (pss_cons (ps_if (pt_not (pt_val (Fx.pe_cal C_is_integer (hr.mono (by decide)) pass0 (Fx.pa_c (pv 3) (Fx.pa_c pe_int (Fx.pa_c (pe_op op_sub (pv 1) pe_int) pa_nil)))))) (pss_one (ps_ret pe_bl)) pss_nil)
        (pss_one (ps_if (PW.pt (pw_and (pt_cmpR op_gt (pv 2) pe_int (nomark _)) (pw_and1 (pt_cmpR op_ge (pe_ix Fx.ix_Q (pv 0) (pe_op op_sub (pv 2) pe_int) (fun _ _ => rfl)) (pv 3) (nomark _))))) (pss_one (ps_ret pe_bl)) pss_nil))))
        (pss_one (ps_ret pe_bl)))), ?_⟩
    obtain ⟨v, d, rfl, hv, q⟩ := h
    obtain ⟨t, ht, hk⟩ := hv.tpd
    refine seqI fun K1 k1 => ?_
    walk_at "rd"
    refine ⟨t, ht, _, hk, ?_⟩
    cases hT : isTp d with
    | false =>
      rw [if_pos (by decide)]
      refine q false H ⟨fun z => Bool.noConfusion z, fun z => ?_⟩ (Same.refl H)
      cases d <;> first | exact z.elim | cases hT
    | true =>
    rw [if_neg (by decide)]
    refine k1 _ _ ?_
    clear k1
    cases d with
    | tuple ds =>
      cases hv with
      | tup hp hds =>
      rename_i p xs
      refine seqI fun K1 k1 => ?_
      refine for_enumQ (K := K) (a := p) (xs := xs) (fun Q h => ⟨_, rfl, h⟩) (.inr hp) (fun i σ H' => ∃ v2 v3 : Option V, σ = [some (.ref p), some (.int 32), v2, v3] ∧ Same H H' ∧ (∀ j d, j < i → ds[j]? = some d → isI 0 31 d = true) ∧ ∀ j, j + 1 < i → (ds.map valI).getD j 0 < (ds.map valI).getD (j + 1) 0) ⟨none, none, rfl, Same.refl H, fun j d h => by omega, fun j h => by omega⟩ ?_ ?_ ?_
      · rintro i σ H' ⟨_, _, _, s, _⟩ o e
        exact s _ _ e
      · rintro i y T' σ H' hy ⟨v2, v3, rfl, s1, hI, hA⟩ nT
        obtain ⟨di, hdi, hy2⟩ := hds.get hy
        have sT := same_new (o := .tup [.int (i : Nat), y]) nT
        refine ⟨T', _, rfl, .inl (.inl upd_same), rfl, _, _, rfl, _, _, rfl, rfl, ?_⟩
        have s2 := s1.trans sT
        have hil := (List.getElem?_eq_some_iff.mp hy).1
        refine seqI fun K1 k1 => ?_
        walk_at "rd"
        rcases hy2.ranged 0 31 with ⟨e, m, rfl, rfl, m0, m1⟩ | ⟨e, bad⟩
        · refine ⟨_, 0, 31, rfl, .inl ⟨m, rfl, m0, m1, _, rfl, ?_⟩⟩
          rw [if_neg (by decide)]
          refine k1 _ _ ?_
          clear k1
          have hI' : ∀ j d, j < i + 1 → ds[j]? = some d → isI 0 31 d = true := fun j d hj hd => by
            by_cases ej : j = i
            · rw [ej, hdi] at hd
              cases hd
              exact e
            · exact hI j d (by omega) hd
          walk_at "rd"
          by_cases g : i = 0
          · rw [if_neg (by omega)]
            exact ⟨s2, hI', fun j hj => by omega⟩
          · rw [if_pos (by omega)]
            obtain ⟨i, rfl⟩ : ∃ q, i = q + 1 := ⟨i - 1, by omega⟩
            rw [show (((i + 1 : Nat) : Int) - 1) = (i : Nat) by omega]
            obtain ⟨z, hz⟩ : ∃ z, xs[i]? = some z := ⟨_, List.getElem?_eq_getElem (by omega)⟩
            obtain ⟨dz, hdz, hz2⟩ := hds.get hz
            have iz := hI i dz (Nat.lt_succ_self _) hdz
            rcases hz2.ranged 0 31 with ⟨e', m', rfl, rfl, m0', m1'⟩ | ⟨e', _⟩
            · refine ⟨_, .inr (s2 _ _ hp), _, atI_get hz, _, rfl, ?_⟩
              refine ite_i (fun ge => q false _ ⟨fun z => Bool.noConfusion z, fun z => absurd z (areM_ge hdz hdi ge)⟩ s2) (fun lt => ⟨s2, hI', fun j hj => ?_⟩)
              by_cases ej : j = i
              · rw [ej, List.getD_eq_getElem?_getD, List.getD_eq_getElem?_getD, List.getElem?_map, List.getElem?_map, hdz, hdi]
                show m' < m
                omega
              · exact hA j (by omega)
            · rw [e'] at iz
              cases iz
        · refine ⟨_, 0, 31, rfl, .inr ⟨bad.same s2, _, rfl, ?_⟩⟩
          rw [if_pos (by decide)]
          exact q false _ ⟨fun z => Bool.noConfusion z, fun z => absurd z (areM_ne hdi e)⟩ s2
      · rintro σ H' ⟨v2, v3, rfl, s1, hI, hA⟩
        refine k1 _ _ ?_
        walk_at "rd"
        refine q true H' ⟨fun _ => ⟨fun d hd => ?_, pw_consec fun j hj => hA j (by rw [List.length_map] at hj; rw [hds.len]; exact hj)⟩, fun _ => rfl⟩ s1
        obtain ⟨j, hj⟩ := List.getElem?_of_mem hd
        exact hI j d (by have := (List.getElem?_eq_some_iff.mp hj).1; rw [hds.len]; exact this) hj
    | _ => cases hT
end
section
variable {P : Program} {w : World} {K : PySem.W.Frag} {mg : Str → Option Value} {base : Heap}
theorem ok_is_row (S : Src K mg "is_row" s_is_row) (T : Tx P K mg) (C_are_marks : Cal P w K mg base CX0 2 "are_marks" ["thing", "most"] spAreMG) (C_is_integer : Cal P w K mg base CX0 1 "is_integer" ["thing", "low", "high"] spIsI)  : Cal P w K mg base CX0 3 "is_row" ["row", "most", "many"] spIsRowG := by
  refine S.cal sc_is_row bn_is_row (fun vs H Q E h => ?_) (fun f cdv A outer s H vs Q E hr h => ?_)
  · first | (obtain ⟨rfl, _⟩ := h; rfl) | (obtain ⟨_, rfl, _⟩ := h; rfl) | (obtain ⟨_, _, rfl, _⟩ := h; rfl) | (obtain ⟨_, _, _, rfl, _⟩ := h; rfl) | (obtain ⟨_, _, _, _, rfl, _⟩ := h; rfl) | (obtain ⟨_, _, _, _, _, rfl, _⟩ := h; rfl) | (obtain ⟨_, _, _, _, _, _, rfl, _⟩ := h; rfl) | (obtain ⟨_, _, _, _, _, _, _, rfl, _⟩ := h; rfl) | (obtain ⟨_, _, _, _, _, _, _, _, rfl, _⟩ := h; rfl) | (obtain ⟨_, _, _, _, _, _, _, _, _, rfl, _⟩ := h; rfl) | (obtain ⟨_, _, _, _, _, _, _, _, _, _, rfl, _⟩ := h; rfl) | (obtain ⟨_, _, _, _, _, _, _, _, _, _, _, rfl, _⟩ := h; rfl) | (obtain ⟨_, _, _, _, _, _, _, _, _, _, _, _, rfl, _⟩ := h; rfl)
  · skip
    refine ⟨_, (pss_cons (ps_if (PW.pt (pw_or (pt_not (pt_val (Fx.pe_cB Fx.is_B T.b_isinstance (by decide +kernel) (Fx.pa_c (pv 0) (Fx.pa_c (pe_bltn (v := .ty "tuple") (by rfl) T.b_tuple (by decide +kernel) rfl) pa_nil))))) (pw_or (pt_cmpR op_ne (Fx.pe_cB Fx.len_T T.b_len (by decide +kernel) (Fx.pa_c (pv 0) pa_nil)) pe_int (nomark _)) (pw_or1 (pt_not (pt_val (Fx.pe_cal C_are_marks (hr.mono (by decide)) pass0 (Fx.pa_c (pe_ix Fx.ix_T (pv 0) pe_int (fun _ _ => rfl)) (Fx.pa_c (pv 1) pa_nil))))))))) (pss_one (ps_ret pe_bl)) pss_nil)
        (pss_one (ps_ret (pe_and (Fx.pe_cal C_is_integer (hr.mono (by decide)) pass0 (Fx.pa_c (pe_ix Fx.ix_T (pv 0) pe_int (fun _ _ => rfl)) (Fx.pa_c pe_int (Fx.pa_c (pv 2) pa_nil)))) (pe_and (Fx.pe_cal C_is_integer (hr.mono (by decide)) pass0 (Fx.pa_c (pe_ix Fx.ix_T (pv 0) pe_int (fun _ _ => rfl)) (Fx.pa_c pe_int (Fx.pa_c (pv 2) pa_nil)))) (pe_one (Fx.pe_cal C_is_integer (hr.mono (by decide)) pass0 (Fx.pa_c (pe_ix Fx.ix_T (pv 0) pe_int (fun _ _ => rfl)) (Fx.pa_c pe_int (Fx.pa_c (pv 2) pa_nil)))))))))), ?_⟩
    obtain ⟨a, r, n, rfl, ⟨v0, v1, v2, v3, ha, h0, h1, h2, h3⟩, q⟩ := h
    walk_at "rd"
    refine ⟨"tuple", tyv_tp ha, true, rfl, ?_⟩
    rw [if_neg (by decide)]
    refine ⟨_, ha, ?_⟩
    rw [if_pos (by rfl)]
    refine ⟨_, ha, _, rfl, v0, r.1, rfl, h0, fun c H1 hc s1 => ⟨_, rfl, ?_⟩⟩
    have no : ¬ RowG n r → Q (.bl false) H1 := fun h => q false H1 ⟨fun z => Bool.noConfusion z, fun z => absurd z h⟩ s1
    cases c with
    | false =>
      rw [if_pos (by decide)]
      exact no fun z => by have := hc.mpr z.1; cases this
    | true =>
    rw [if_neg (by decide)]
    have hm := hc.mp rfl
    refine ⟨_, s1 _ _ ha, _, rfl, ?_⟩
    rcases h1.ranged 0 n with ⟨e1, i1, d1, rfl, a1, b1⟩ | ⟨e1, bad⟩
    · refine ⟨_, _, _, rfl, .inl ⟨i1, rfl, a1, b1, _, rfl, ?_⟩⟩
      rw [if_pos rfl]
      refine ⟨_, s1 _ _ ha, _, rfl, ?_⟩
      rcases h2.ranged 0 n with ⟨e2, i2, d2, rfl, a2, b2⟩ | ⟨e2, bad⟩
      · refine ⟨_, _, _, rfl, .inl ⟨i2, rfl, a2, b2, _, rfl, ?_⟩⟩
        rw [if_pos rfl]
        refine ⟨_, s1 _ _ ha, _, rfl, ?_⟩
        rcases h3.ranged 0 n with ⟨e3, i3, d3, rfl, a3, b3⟩ | ⟨e3, bad⟩
        · exact ⟨_, _, _, rfl, .inl ⟨i3, rfl, a3, b3, q true H1 ⟨fun _ => ⟨hm, e1, e2, e3⟩, fun _ => rfl⟩ s1⟩⟩
        · exact ⟨_, _, _, rfl, .inr ⟨bad.same s1, no fun z => (by have z := z.2.2.2; rw [e3] at z; cases z)⟩⟩
      · refine ⟨_, _, _, rfl, .inr ⟨bad.same s1, _, rfl, ?_⟩⟩
        rw [if_neg (by decide)]
        exact no fun z => by have z := z.2.2.1; rw [e2] at z; cases z
    · refine ⟨_, _, _, rfl, .inr ⟨bad.same s1, _, rfl, ?_⟩⟩
      rw [if_neg (by decide)]
      exact no fun z => by have z := z.2.1; rw [e1] at z; cases z
end
section
variable {P : Program} {w : World} {K : PySem.W.Frag} {mg : Str → Option Value} {base : Heap}
theorem ok_is_row_of_parts (S : Src K mg "is_row_of_parts" s_is_row_of_parts) (T : Tx P K mg)   : Cal P w K mg base CX0 1 "is_row_of_parts" ["holders", "besides", "first", "thing"] spRowPG := by
  refine S.cal sc_is_row_of_parts bn_is_row_of_parts (fun vs H Q E h => ?_) (fun f cdv A outer s H vs Q E hr h => ?_)
  · first | (obtain ⟨rfl, _⟩ := h; rfl) | (obtain ⟨_, rfl, _⟩ := h; rfl) | (obtain ⟨_, _, rfl, _⟩ := h; rfl) | (obtain ⟨_, _, _, rfl, _⟩ := h; rfl) | (obtain ⟨_, _, _, _, rfl, _⟩ := h; rfl) | (obtain ⟨_, _, _, _, _, rfl, _⟩ := h; rfl) | (obtain ⟨_, _, _, _, _, _, rfl, _⟩ := h; rfl) | (obtain ⟨_, _, _, _, _, _, _, rfl, _⟩ := h; rfl) | (obtain ⟨_, _, _, _, _, _, _, _, rfl, _⟩ := h; rfl) | (obtain ⟨_, _, _, _, _, _, _, _, _, rfl, _⟩ := h; rfl) | (obtain ⟨_, _, _, _, _, _, _, _, _, _, rfl, _⟩ := h; rfl) | (obtain ⟨_, _, _, _, _, _, _, _, _, _, _, rfl, _⟩ := h; rfl) | (obtain ⟨_, _, _, _, _, _, _, _, _, _, _, _, rfl, _⟩ := h; rfl)
  · skip
    refine ⟨_, (pss_cons (ps_set (i := 4) sc_is_row_of_parts.nd rfl (Or.inl rfl) (pe_lst pa_nil))
        (pss_cons (ps_set (i := 5) sc_is_row_of_parts.nd rfl (Or.inl rfl) (pv 2))
        (pss_cons (ps_while PassesOwn.never (pt_cmpR op_ne (pv 5) pe_int (nomark _)) (pss_cons (ps_if (PW.pt (pw_or (pt_cmpR op_in_seq (pv 5) (pv 4) rfl) (pw_or1 (pt_cmpR op_ne (pe_ix Fx.ix_L (pv 0) (pv 5) (fun _ _ => rfl)) (pv 3) (nomark _))))) (pss_one (ps_ret pe_bl)) pss_nil)
        (pss_cons (ps_expr (pe_bm PySem.F.plainAttrs_list PySem.F.slot_list_append PySem.F.type_list_append mt_append (pv 4) (Fx.pa_c (pv 5) pa_nil)))
        (pss_one (ps_set (i := 5) sc_is_row_of_parts.nd rfl (Or.inl rfl) (pe_ix Fx.ix_L (pv 1) (pv 5) (fun _ _ => rfl)))))))
        (pss_one (ps_ret (pe_cmpR op_eq (Fx.pe_cB Fx.len_L T.b_len (by decide +kernel) (Fx.pa_c (pv 4) pa_nil)) (Fx.pe_cB Fx.len_L T.b_len (by decide +kernel) (Fx.pa_c (pe_lc (own := [("one", 6)]) rfl sc_is_row_of_parts.nd (pi_range2 rfl T.b_range (Fx.pa_c pe_int (Fx.pa_c (Fx.pe_cB Fx.len_L T.b_len (by decide +kernel) (Fx.pa_c (pv 0) pa_nil)) pa_nil))) (blkOk_by (N := N_is_row_of_parts) (sc := defScope s_is_row_of_parts) (by decide +kernel)) (fun _ _ _ _ _ => (pg_name (i := 6) sc_is_row_of_parts.nd rfl (Or.inl rfl))) (fun _ _ _ _ _ => (pts_one (pt_cmpR op_eq (pe_ix Fx.ix_L (pv 0) (pv 6) (fun _ _ => rfl)) (pv 3) (nomark _)))) (fun _ _ _ _ _ => (pv 6))) pa_nil)) (nomark _))))))), ?_⟩
    obtain ⟨a, b, hol, bes, t, n, f, rfl, ha, hb, n60, lh, lb, vb, h00, hf, t1, tn, q⟩ := h
    refine seqI fun K1 k1 => ?_
    walk_at "rd"
    refine ⟨by decide, fun p np => k1 _ _ ?_⟩
    clear k1
    have sp := same_new (o := .lst []) np
    refine seqI fun K1 k1 => ?_
    walk_at "rd"
    refine k1 _ _ ?_
    clear k1
    refine seqI fun K1 k1 => ?_
    refine whileF (fun m σ H' => ∃ (g : Nat) (l : List Nat), σ = [some (.ref a), some (.ref b), some (.int f), some (.int t), some (.ref p), some (.int g), none] ∧ m = n - l.length ∧ l.Nodup ∧ (∀ z ∈ l, 1 ≤ z ∧ z ≤ n ∧ hol.getD z 0 = t) ∧ g ≤ n ∧ Seg bes f l g ∧ H' = upd H p (.lst (ni l))) n ⟨f, [], rfl, rfl, .nil, fun z hz => (by cases hz), hf, rfl, rfl⟩ ?_
    rintro m σ H' ⟨g, l, rfl, rfl, ndl, hl, hg, sg, rfl⟩ A2 B2 ka kb
    have sq := same_new (o := .lst (ni l)) np
    walk_at "rd"
    by_cases g0 : g = 0
    · rw [if_pos (by omega)]
      refine kb _ (k1 _ _ ?_)
      clear ka kb k1
      rw [g0] at sg
      walk_at "rd"
      generalize htt : tTest _ = tt
      generalize hte : tVar 6 = te
      generalize hgg : gName 6 = gg
      unfold tLc
      walk_at "rd"
      have en : (((ni hol).length : Nat) : Int) - 1 = (n : Nat) := by
        rw [ni_len, lh]
        omega
      refine ⟨_, sq _ _ ha, by decide, by decide, sz0 (by rw [ni_len, lh]; omega), sz1 (by rw [ni_len, lh]; omega), fun D nD => ?_⟩
      rw [en, Int.toNat_natCast]
      refine lc_range (lo := 1) (n := n) (g := gg) (tt := tt) (te := te) (vs := [6]) (σ := [some (.ref a), some (.ref b), some (.int f), some (.int t), some (.ref p), some (.int g), none]) (fun i H' => H' D = some (.lst (ni ((List.range' 1 i).filter fun z => decide (hol.getD z 0 = t)))) ∧ Same (upd H p (.lst (ni l))) H') ⟨upd_same, same_new nD⟩ ?_ ?_
      · rintro i H1 hi ⟨hD, s1⟩
        have ei : (1 : Int) + (i : Nat) = ((i + 1 : Nat) : Int) := by omega
        rw [ei, ← hte, ← hgg, ← htt]
        refine ⟨rfl, ?_⟩
        walk_at "rd"
        refine ⟨_, (sq.trans s1) _ _ ha, _, ni_at (by omega), rfl, ?_⟩
        rw [List.range'_concat, List.filter_append]
        have lf : ((List.range' 1 i).filter fun z => decide (hol.getD z 0 = t)).length < sizeLine := by
          have := List.length_filter_le (fun z => decide (hol.getD z 0 = t)) (List.range' 1 i)
          rw [List.length_range'] at this
          exact Nat.lt_of_lt_of_le (by omega : _ < 100) (by decide)
        have e1 : 1 + 1 * i = i + 1 := by omega
        rw [e1]
        by_cases g2 : hol.getD (i + 1) 0 = t
        · rw [if_pos (by rw [g2]), List.filter_cons_of_pos (by simpa using g2)]
          refine ⟨_, hD, by rw [ni_len]; exact lf, ?_, Same.put s1 nD⟩
          rw [ni, ni, List.map_append]
          rfl
        · rw [if_neg (fun z => g2 (by have := V.int.inj z; omega)), List.filter_cons_of_neg (by simpa using g2)]
          rw [List.filter_nil, List.append_nil]
          exact ⟨hD, s1⟩
      · rintro H1 ⟨hD, s1⟩
        refine ⟨_, hD, ?_⟩
        rw [ni_len, ni_len]
        refine q _ H1 ⟨fun z => ?_, fun ⟨P, h1, h2, h3⟩ => ?_⟩ (sq.trans s1)
        · have z := of_decide_eq_true z
          have z : l.length = ((List.range' 1 n).filter fun z => decide (hol.getD z 0 = t)).length := by omega
          have sub : ∀ y ∈ l, y ∈ (List.range' 1 n).filter fun z => decide (hol.getD z 0 = t) := fun y hy => by
            have := hl y hy
            exact List.mem_filter.mpr ⟨List.mem_range'_1.mpr ⟨this.1, by omega⟩, decide_eq_true this.2.2⟩
          refine ⟨l, ndl, fun y => ⟨hl y, fun hy => ?_⟩, ?_⟩
          · refine Classical.byContradiction fun no => ?_
            have := nodup_le (a := y :: l) (b := (List.range' 1 n).filter fun z => decide (hol.getD z 0 = t)) (List.nodup_cons.mpr ⟨no, ndl⟩) fun x hx => by
              rcases List.mem_cons.mp hx with rfl | hx
              · exact List.mem_filter.mpr ⟨List.mem_range'_1.mpr ⟨hy.1, by omega⟩, decide_eq_true hy.2.2⟩
              · exact sub x hx
            rw [List.length_cons] at this
            omega
          · have := seg_chain sg (r := []) rfl
            rw [List.append_nil] at this
            exact this
        · obtain ⟨r, e, c⟩ := seg_split sg h3
          rw [chain_zero c, List.append_nil] at e
          subst e
          have := ((List.perm_ext_iff_of_nodup ((List.nodup_range' ..).filter fun z => decide (hol.getD z 0 = t)) h1).mpr fun y => by
            rw [h2 y, List.mem_filter, List.mem_range'_1, decide_eq_true_eq]
            exact ⟨fun z => ⟨z.1.1, by omega, z.2⟩, fun z => ⟨⟨z.1, by omega⟩, z.2.2⟩⟩ : ((List.range' 1 n).filter fun z => decide (hol.getD z 0 = t)).Perm P).length_eq
          rw [this]
          exact decide_eq_true rfl
    rw [if_neg (by omega)]
    refine ka _ ?_
    clear ka kb k1
    have ll := nodup_le (a := l) (b := List.range' 1 n) ndl fun z hz => by have := hl z hz; exact List.mem_range'_1.mpr ⟨this.1, by omega⟩
    rw [List.length_range'] at ll
    refine seqI fun K1 k1 => ?_
    walk_at "rd"
    refine ⟨p, _, rfl, .inl (.inl (.inl upd_same)), rfl, flat_ni _, _, rfl, ?_⟩
    rw [show (if false = true then !inV (V.int (g : Nat)) (ni l) else inV (V.int (g : Nat)) (ni l)) = decide (g ∈ l) from inV_ni l]
    have no : (g ∈ l ∨ hol.getD g 0 ≠ t) → ¬ PartsRow hol bes n f t := fun h ⟨P, h1, h2, h3⟩ => by
      obtain ⟨r, e, c⟩ := seg_split sg h3
      cases r with
      | nil => exact g0 c
      | cons z r =>
        have ez : z = g := c.1.symm
        subst ez
        rcases h with h | h
        · rw [e] at h1
          exact (List.nodup_append.mp h1).2.2 z h z List.mem_cons_self rfl
        · exact h ((h2 z).mp (by rw [e]; exact List.mem_append_right _ List.mem_cons_self)).2.2
    by_cases gl : g ∈ l
    · rw [if_pos (decide_eq_true gl)]
      exact q false _ ⟨fun z => Bool.noConfusion z, fun z => absurd z (no (.inl gl))⟩ sq
    rw [if_neg (by rw [decide_eq_false gl]; decide)]
    refine ⟨_, sq _ _ ha, _, ni_at (by omega), rfl, ?_⟩
    by_cases gt : hol.getD g 0 = t
    · rw [if_pos (by rw [gt])]
      refine k1 _ _ ?_
      clear k1
      have sr := same_new (o := .lst (ni l ++ [.int (g : Nat)])) np
      have ndl' : (l ++ [g]).Nodup := List.nodup_append.mpr ⟨ndl, by simp, fun x hx y hy e => gl (by rw [← List.mem_singleton.mp hy, ← e]; exact hx)⟩
      have hl' : ∀ z ∈ l ++ [g], 1 ≤ z ∧ z ≤ n ∧ hol.getD z 0 = t := fun z hz => (List.mem_append.mp hz).elim (hl z) fun h => by rw [List.mem_singleton.mp h]; exact ⟨by omega, hg, gt⟩
      have ll' := nodup_le (a := l ++ [g]) (b := List.range' 1 n) ndl' fun z hz => by have := hl' z hz; exact List.mem_range'_1.mpr ⟨this.1, by omega⟩
      rw [List.length_range', List.length_append, List.length_singleton] at ll'
      walk_at "rd"
      refine ⟨tyL upd_same, ?_⟩
      walk_at "rd"
      rw [upd_upd]
      exact ⟨by rw [ni_len]; exact Nat.lt_of_lt_of_le (by omega : _ < 100) (by decide), _, sr _ _ hb, _, ni_at (by omega), n - (l ++ [g]).length, by rw [List.length_append, List.length_singleton]; omega, _, rfl, l ++ [g], rfl, ndl', hl', getD_le vb, seg_snoc sg g0, by rw [ni_app]; rfl⟩
    · rw [if_neg (fun z => gt (by have := V.int.inj z; omega))]
      exact q false _ ⟨fun z => Bool.noConfusion z, fun z => absurd z (no (.inr gt))⟩ sq
end
section
variable {P : Program} {w : World} {K : PySem.W.Frag} {mg : Str → Option Value} {base : Heap}
theorem ok_has_no_place (S : Src K mg "has_no_place" s_has_no_place) (T : Tx P K mg)   : Cal P w K mg base CX0 1 "has_no_place" ["holders", "thing"] spNoPlaceG := by
  refine S.cal sc_has_no_place bn_has_no_place (fun vs H Q E h => ?_) (fun f cdv A outer s H vs Q E hr h => ?_)
  · first | (obtain ⟨rfl, _⟩ := h; rfl) | (obtain ⟨_, rfl, _⟩ := h; rfl) | (obtain ⟨_, _, rfl, _⟩ := h; rfl) | (obtain ⟨_, _, _, rfl, _⟩ := h; rfl) | (obtain ⟨_, _, _, _, rfl, _⟩ := h; rfl) | (obtain ⟨_, _, _, _, _, rfl, _⟩ := h; rfl) | (obtain ⟨_, _, _, _, _, _, rfl, _⟩ := h; rfl) | (obtain ⟨_, _, _, _, _, _, _, rfl, _⟩ := h; rfl) | (obtain ⟨_, _, _, _, _, _, _, _, rfl, _⟩ := h; rfl) | (obtain ⟨_, _, _, _, _, _, _, _, _, rfl, _⟩ := h; rfl) | (obtain ⟨_, _, _, _, _, _, _, _, _, _, rfl, _⟩ := h; rfl) | (obtain ⟨_, _, _, _, _, _, _, _, _, _, _, rfl, _⟩ := h; rfl) | (obtain ⟨_, _, _, _, _, _, _, _, _, _, _, _, rfl, _⟩ := h; rfl)
  · skip
    refine ⟨_, (pss_cons (ps_set (i := 2) sc_has_no_place.nd rfl (Or.inl rfl) (pv 1))
        (pss_cons (ps_for PassesOwn.never rfl (pi_list (pv 0)) (pg_name (i := 3) sc_has_no_place.nd rfl (Or.inl rfl)) (pss_cons (ps_if (pt_cmpR op_eq (pv 2) pe_int (nomark _)) (pss_one (ps_ret pe_bl)) pss_nil)
        (pss_one (ps_set (i := 2) sc_has_no_place.nd rfl (Or.inl rfl) (pe_ix Fx.ix_L (pv 0) (pv 2) (fun _ _ => rfl))))))
        (pss_one (ps_ret (pe_cmpR op_ne (pv 2) pe_int (nomark _)))))), ?_⟩
    obtain ⟨p, hol, n, i, rfl, hp, lh, hb, h0, hi, n60, q⟩ := h
    refine seqI fun K1 k1 => ?_
    walk_at "rd"
    refine k1 _ _ ?_
    clear k1
    refine seqI fun K1 k1 => ?_
    refine ⟨_, rfl, p, rfl, ⟨_, .inl (.inl hp)⟩, for_list (K := K) (a := p) (xs := ni hol) (fun j σ H' => ∃ (at_ : Nat) (v3 : Option V), σ = [some (.ref p), some (.int (i : Nat)), some (.int (at_ : Nat)), v3] ∧ H' = H ∧ at_ ≤ n ∧ itH hol (n + 1 - j) at_ = itH hol (n + 1) i) ⟨i, none, rfl, rfl, hi, rfl⟩ (fun j σ H' _ ⟨_, _, _, e, _⟩ => by rw [e]; exact .inl (.inl hp)) ?_ ?_⟩
    · rintro j y σ H' hy ⟨at_, v3, rfl, rfl, ha, hj⟩
      have hl := (List.getElem?_eq_some_iff.mp hy).1
      rw [ni_len, lh] at hl
      obtain ⟨m, em⟩ : ∃ m, n + 1 - j = m + 1 := ⟨n - j, by omega⟩
      rw [em] at hj
      have em2 : n + 1 - (j + 1) = m := by omega
      refine seqI fun K1 k1 => ?_
      walk_at "rd"
      by_cases g : at_ = 0
      · rw [if_pos (by omega)]
        rw [g, itH_zero h0] at hj
        rw [← hj, decide_eq_true rfl] at q
        exact q
      · rw [if_neg (by omega)]
        refine k1 _ _ ?_
        clear k1
        walk_at "rd"
        exact ⟨_, hp, _, ni_at (by omega), _, rfl, getD_le hb, by rw [em2]; exact hj⟩
    · rintro σ H' ⟨at_, v3, rfl, rfl, ha, hj⟩
      refine k1 _ _ ?_
      clear k1
      walk_at "rd"
      rw [ni_len, lh, Nat.sub_self] at hj
      have hj : at_ = itH hol (n + 1) i := hj
      rw [← hj] at q
      rw [show decide (((at_ : Nat) : Int) = 0) = decide (at_ = 0) from decide_eq_decide.mpr (by omega)]
      exact q
end
section
variable {P : Program} {w : World} {K : PySem.W.Frag} {mg : Str → Option Value} {base : Heap}
theorem ok_check_rows (S : Src K mg "check_rows" s_check_rows) (T : Tx P K mg) (C_is_row : Cal P w K mg base CX0 3 "is_row" ["row", "most", "many"] spIsRowG) (C_is_row_of_parts : Cal P w K mg base CX0 1 "is_row_of_parts" ["holders", "besides", "first", "thing"] spRowPG) (C_has_no_place : Cal P w K mg base CX0 1 "has_no_place" ["holders", "thing"] spNoPlaceG)  : Cal P w K mg base CX0 4 "check_rows" ["rows", "most"] spCheckG := by
  refine S.cal sc_check_rows bn_check_rows (fun vs H Q E h => ?_) (fun f cdv A outer s H vs Q E hr h => ?_)
  · first | (obtain ⟨rfl, _⟩ := h; rfl) | (obtain ⟨_, rfl, _⟩ := h; rfl) | (obtain ⟨_, _, rfl, _⟩ := h; rfl) | (obtain ⟨_, _, _, rfl, _⟩ := h; rfl) | (obtain ⟨_, _, _, _, rfl, _⟩ := h; rfl) | (obtain ⟨_, _, _, _, _, rfl, _⟩ := h; rfl) | (obtain ⟨_, _, _, _, _, _, rfl, _⟩ := h; rfl) | (obtain ⟨_, _, _, _, _, _, _, rfl, _⟩ := h; rfl) | (obtain ⟨_, _, _, _, _, _, _, _, rfl, _⟩ := h; rfl) | (obtain ⟨_, _, _, _, _, _, _, _, _, rfl, _⟩ := h; rfl) | (obtain ⟨_, _, _, _, _, _, _, _, _, _, rfl, _⟩ := h; rfl) | (obtain ⟨_, _, _, _, _, _, _, _, _, _, _, rfl, _⟩ := h; rfl) | (obtain ⟨_, _, _, _, _, _, _, _, _, _, _, _, rfl, _⟩ := h; rfl)
  · skip
    refine ⟨_, (pss_cons (ps_set (i := 2) sc_check_rows.nd rfl (Or.inl rfl) (Fx.pe_cB Fx.len_Q T.b_len (by decide +kernel) (Fx.pa_c (pv 0) pa_nil)))
        (pss_cons (ps_for PassesOwn.never rfl (Fx.pi_enumQ rfl T.b_enumerate (Fx.pa_c (pv 0) pa_nil)) (pg_tup rfl (pgs_cons (pg_name (i := 3) sc_check_rows.nd rfl (Or.inl rfl)) (pgs_cons (pg_name (i := 4) sc_check_rows.nd rfl (Or.inl rfl)) pgs_nil))) (pss_one (ps_if (pt_not (pt_val (Fx.pe_cal C_is_row (hr.mono (by decide)) pass0 (Fx.pa_c (pv 4) (Fx.pa_c (pv 1) (Fx.pa_c (pv 2) pa_nil)))))) (pss_one (ps_ret (pe_op op_add (pv 3) pe_int))) pss_nil)))
        (pss_cons (ps_set (i := 5) sc_check_rows.nd rfl (Or.inl rfl) (pe_op op_cat (pe_lst (Fx.pa_c pe_int pa_nil)) (pe_lc (own := [("row", 4)]) rfl sc_check_rows.nd (Fx.pi_Q (pv 0)) (blkOk_by (N := N_check_rows) (sc := defScope s_check_rows) (by decide +kernel)) (fun _ _ _ _ _ => (pg_name (i := 4) sc_check_rows.nd rfl (Or.inl rfl))) (fun _ _ _ _ _ => pts_nil) (fun _ _ _ _ _ => (pe_ix Fx.ix_T (pv 4) pe_int (fun _ _ => rfl))))))
        (pss_cons (ps_set (i := 6) sc_check_rows.nd rfl (Or.inl rfl) (pe_op op_cat (pe_lst (Fx.pa_c pe_int pa_nil)) (pe_lc (own := [("row", 4)]) rfl sc_check_rows.nd (Fx.pi_Q (pv 0)) (blkOk_by (N := N_check_rows) (sc := defScope s_check_rows) (by decide +kernel)) (fun _ _ _ _ _ => (pg_name (i := 4) sc_check_rows.nd rfl (Or.inl rfl))) (fun _ _ _ _ _ => pts_nil) (fun _ _ _ _ _ => (pe_ix Fx.ix_T (pv 4) pe_int (fun _ _ => rfl))))))
        (pss_cons (ps_for PassesOwn.never rfl (Fx.pi_enumQ rfl T.b_enumerate (Fx.pa_c (pv 0) pa_nil)) (pg_tup rfl (pgs_cons (pg_name (i := 3) sc_check_rows.nd rfl (Or.inl rfl)) (pgs_cons (pg_name (i := 4) sc_check_rows.nd rfl (Or.inl rfl)) pgs_nil))) (pss_cons (ps_if (pt_not (pt_val (Fx.pe_cal C_is_row_of_parts (hr.mono (by decide)) pass0 (Fx.pa_c (pv 5) (Fx.pa_c (pv 6) (Fx.pa_c (pe_ix Fx.ix_T (pv 4) pe_int (fun _ _ => rfl)) (Fx.pa_c (pe_op op_add (pv 3) pe_int) pa_nil))))))) (pss_one (ps_ret (pe_op op_add (pv 3) pe_int))) pss_nil)
        (pss_one (ps_if (PW.pt (pw_or (pt_val (Fx.pe_cal C_has_no_place (hr.mono (by decide)) pass0 (Fx.pa_c (pv 5) (Fx.pa_c (pe_op op_add (pv 3) pe_int) pa_nil)))) (pw_or1 (PW.pt (pw_and (pt_cmpR op_eq (pe_ix Fx.ix_T (pv 4) pe_int (fun _ _ => rfl)) pe_int (nomark _)) (pw_and1 (pt_cmpR op_ne (pe_ix Fx.ix_T (pv 4) pe_int (fun _ _ => rfl)) pe_int (nomark _)))))))) (pss_one (ps_ret (pe_op op_add (pv 3) pe_int))) pss_nil))))
        (pss_one (ps_ret pe_non))))))), ?_⟩
    obtain ⟨p, as, rs, rfl, R, n1, n60, q⟩ := h
    have hp := R.h
    have la := R.la
    refine seqI fun K1 k1 => ?_
    walk_at "rd"
    refine ⟨_, hp, k1 _ _ ?_⟩
    clear k1
    obtain ⟨n, en⟩ : ∃ n, n = rs.length := ⟨_, rfl⟩
    have eL : ((as.map V.ref).length : Int) = (n : Nat) := by rw [List.length_map, la, en]
    rw [eL]
    refine seqI fun K0 k0 => ?_
    refine for_enumQ (K := K) (a := p) (xs := as.map V.ref) (fun Q h => ⟨_, rfl, h⟩) hp (fun i σ H' => ∃ v3 v4 v5 v6 : Option V, σ = [some (.ref p), some (.int 32), some (.int (n : Nat)), v3, v4, v5, v6] ∧ Same H H' ∧ ∀ j q, j < i → rs[j]? = some q → RowG rs.length q) ⟨none, none, none, none, rfl, Same.refl H, fun j q h => by omega⟩ ?_ ?_ ?_
    · rintro i σ H' ⟨_, _, _, _, _, s, _⟩ o e
      exact s _ _ e
    · rintro i y T' σ H' hy ⟨v3, v4, v5, v6, rfl, s1, pre⟩ nT
      obtain ⟨a, r, rfl, ha, hr2, hm, hra, hin⟩ := R.at_ hy
      have sT := same_new (o := .tup [.int (i : Nat), .ref a]) nT
      refine ⟨T', _, rfl, .inl (.inl upd_same), rfl, _, _, rfl, _, _, rfl, rfl, ?_⟩
      walk_at "rd"
      refine ⟨a, r, n, rfl, hra.same (s1.trans sT), fun c H1 hc s2 => ⟨_, rfl, ?_⟩⟩
      rw [en] at hc
      cases c with
      | false =>
        rw [if_pos (by decide)]
        have := q (i + 1) H1 (.inr ⟨i, r, hr2, rfl, fun z => Bool.noConfusion (hc.mpr z), pre⟩) ((s1.trans sT).trans s2)
        rw [if_neg (by omega)] at this
        exact this
      | true =>
        rw [if_neg (by decide)]
        refine ⟨(s1.trans sT).trans s2, fun j z hj hz => ?_⟩
        by_cases e : j = i
        · rw [e, hr2] at hz
          cases hz
          exact hc.mp rfl
        · exact pre j z (by omega) hz
    rintro σ H1 ⟨v3, v4, v5, v6, rfl, s1, pre⟩
    refine k0 _ _ ?_
    clear k0
    have all : ∀ r ∈ rs, RowG rs.length r := fun r hr => by
      obtain ⟨j, hj⟩ := List.getElem?_of_mem hr
      exact pre j r (by rw [List.length_map, la]; exact (List.getElem?_eq_some_iff.mp hj).1) hj
    clear pre
    have zz : 1 + n ≤ sizeLine := Nat.le_trans (by omega : _ ≤ 100) (by decide)
    refine seqI fun K1 k1 => ?_
    walk_at "rd"
    refine ⟨by decide, fun q0 n0 => ?_⟩
    have sA := same_new (o := .lst [.int 0]) n0
    have hq0 : (upd H1 q0 (.lst [.int 0])) q0 = some (.lst [.int 0]) := upd_same
    generalize upd H1 q0 (.lst [.int 0]) = H2 at sA hq0
    have s2 := s1.trans sA
    refine lcQ (K := K) (a := p) (xs := as.map V.ref) (fun i => [V.int ((rs.map fun r => natD r.2.1).getD i 0 : Nat)]) rfl (sq_same hp s2) ?_ ?_
    · intro D nD i y H3 hy h3
      obtain ⟨a, r, rfl, ha, hr2, hm, hra, hin⟩ := R.at_ hy
      obtain ⟨v0, v1, v2, v3, g0, g1, g2, g3, g4⟩ := hra.same (s2.trans h3.1)
      have e : (rs.map fun r => natD r.2.1).getD i 0 = natD r.2.1 := by rw [List.getD_eq_getElem?_getD, List.getElem?_map, hr2]; rfl
      refine ⟨rfl, ?_⟩
      walk_at "rd"
      refine ⟨_, g0, _, rfl, ?_⟩
      rw [(g2.nat (all r hm).2.1).1]
      exact h3.put nD (fun _ => Nat.le_refl _) (by omega) (Same.refl _) (by rw [e])
    intro D H3 nD s3 hD
    rw [flat_one, show (as.map V.ref).length = n by rw [List.length_map, la, en], range_getD (by rw [List.length_map, en])] at hD
    refine ⟨D, rfl, _, s3 _ _ hq0, _, hD, by rw [ni_len, List.length_map, ← en]; exact zz, fun qh nh => k1 _ _ ?_⟩
    clear k1
    have s4 := (s2.trans s3).trans (same_new (o := .lst (ni (holB rs))) nh)
    have hh : (upd H3 qh (.lst (ni (holB rs)))) qh = some (.lst (ni (holB rs))) := upd_same
    rw [show [V.int 0] ++ ni (rs.map fun r => natD r.2.1) = ni (holB rs) from rfl]
    generalize upd H3 qh (.lst (ni (holB rs))) = H4 at s4 hh
    clear hD s3 nD hq0 sA s2 n0 nh s1
    refine seqI fun K1 k1 => ?_
    walk_at "rd"
    refine ⟨by decide, fun q0 n0 => ?_⟩
    have sA := same_new (o := .lst [.int 0]) n0
    have hq0 : (upd H4 q0 (.lst [.int 0])) q0 = some (.lst [.int 0]) := upd_same
    generalize upd H4 q0 (.lst [.int 0]) = H5 at sA hq0
    have s5 := s4.trans sA
    refine lcQ (K := K) (a := p) (xs := as.map V.ref) (fun i => [V.int ((rs.map fun r => natD r.2.2.1).getD i 0 : Nat)]) rfl (sq_same hp s5) ?_ ?_
    · intro D nD i y H3 hy h3
      obtain ⟨a, r, rfl, ha, hr2, hm, hra, hin⟩ := R.at_ hy
      obtain ⟨v0, v1, v2, v3, g0, g1, g2, g3, g4⟩ := hra.same (s5.trans h3.1)
      have e : (rs.map fun r => natD r.2.2.1).getD i 0 = natD r.2.2.1 := by rw [List.getD_eq_getElem?_getD, List.getElem?_map, hr2]; rfl
      refine ⟨rfl, ?_⟩
      walk_at "rd"
      refine ⟨_, g0, _, rfl, ?_⟩
      rw [(g3.nat (all r hm).2.2.1).1]
      exact h3.put nD (fun _ => Nat.le_refl _) (by omega) (Same.refl _) (by rw [e])
    intro D H6 nD s6 hD
    rw [flat_one, show (as.map V.ref).length = n by rw [List.length_map, la, en], range_getD (by rw [List.length_map, en])] at hD
    refine ⟨D, rfl, _, s6 _ _ hq0, _, hD, by rw [ni_len, List.length_map, ← en]; exact zz, fun qb nb => k1 _ _ ?_⟩
    clear k1
    have s7 := (s5.trans s6).trans (same_new (o := .lst (ni (besB rs))) nb)
    have hh7 := same_new (o := .lst (ni (besB rs))) nb _ _ (s6 _ _ (sA _ _ hh))
    have hb7 : (upd H6 qb (.lst (ni (besB rs)))) qb = some (.lst (ni (besB rs))) := upd_same
    rw [show [V.int 0] ++ ni (rs.map fun r => natD r.2.2.1) = ni (besB rs) from rfl]
    generalize upd H6 qb (.lst (ni (besB rs))) = H7 at s7 hh7 hb7
    clear hD s6 nD hq0 sA s5 n0 nb s4 hh
    obtain ⟨lh, lb⟩ := holB_len rs
    obtain ⟨vh, vb⟩ := holB_le all
    rw [← en] at lh lb vh vb
    refine seqI fun K0 k0 => ?_
    refine for_enumQ (K := K) (a := p) (xs := as.map V.ref) (fun Q h => ⟨_, rfl, h⟩) (sq_same hp s7) (fun i σ H' => ∃ v3 v4 : Option V, σ = [some (.ref p), some (.int 32), some (.int (n : Nat)), v3, v4, some (.ref qh), some (.ref qb)] ∧ Same H7 H' ∧ ∀ j < i, Among rs j) ⟨_, _, rfl, Same.refl H7, fun j hj => by omega⟩ ?_ ?_ ?_
    · rintro i σ H' ⟨_, _, _, s, _⟩ o e
      exact s _ _ e
    · rintro i y T' σ H' hy ⟨v3, v4, rfl, s1, pre⟩ nT
      obtain ⟨a, r, rfl, ha, hr2, hm, hra, hin⟩ := R.at_ hy
      have sT := same_new (o := .tup [.int (i : Nat), .ref a]) nT
      refine ⟨T', _, rfl, .inl (.inl upd_same), rfl, _, _, rfl, _, _, rfl, rfl, ?_⟩
      have s8 := s1.trans sT
      have g := all r hm
      obtain ⟨x0, x1, x2, x3, g0, g1, g2, g3, g4⟩ := hra.same (s7.trans s8)
      obtain ⟨rfl, b1⟩ := g2.nat g.2.1
      obtain ⟨rfl, b2⟩ := g3.nat g.2.2.1
      obtain ⟨rfl, b3⟩ := g4.nat g.2.2.2
      obtain ⟨w1, w2, w3⟩ := holB_get hr2
      have bad : ∀ H', ¬ Among rs i → Same H H' → Q (.int ((i : Int) + 1)) H' := fun H' no s => by
        have := q (i + 1) H' (.inl ⟨all, .inr ⟨i, hin, rfl, no, pre⟩⟩) s
        rw [if_neg (by omega)] at this
        exact this
      have e1 : ((i : Int) + 1) = ((i + 1 : Nat) : Int) := by omega
      refine seqI fun K1 k1 => ?_
      walk_at "rd"
      refine ⟨_, g0, _, rfl, qh, qb, holB rs, besB rs, i + 1, n, natD r.2.2.2, by rw [e1], s8 _ _ hh7, s8 _ _ hb7, by omega, lh, lb, vb, rfl, by omega, by omega, by omega, fun c H1 hc s9 => ⟨_, rfl, ?_⟩⟩
      have s10 := s8.trans s9
      cases c with
      | false =>
        rw [if_pos (by decide)]
        refine bad H1 (fun z => ?_) (s7.trans s10)
        have z := z.1
        rw [w3, ← en] at z
        have := hc.mpr z
        cases this
      | true =>
      rw [if_neg (by decide)]
      have pr := hc.mp rfl
      refine k1 _ _ ?_
      clear k1
      walk_at "rd"
      refine ⟨qh, holB rs, n, i + 1, by rw [e1], s10 _ _ hh7, lh, vh, rfl, by omega, by omega, _, rfl, ?_⟩
      by_cases it0 : itH (holB rs) (n + 1) (i + 1) = 0
      · rw [decide_eq_true it0, if_neg (by decide)]
        have go : ((holB rs).getD (i + 1) 0 = 0 → (besB rs).getD (i + 1) 0 = 0) → Same H7 H1 ∧ ∀ j < i + 1, Among rs j := fun hz => ⟨s10, fun j hj => by
          by_cases e : j = i
          · rw [e]
            exact ⟨by rw [w3, ← en]; exact pr, by rw [← en]; exact it0, hz⟩
          · exact pre j (by omega)⟩
        refine ⟨_, s9 _ _ g0, _, rfl, rfl, ?_⟩
        by_cases z1 : natD r.2.1 = 0
        · rw [if_pos (by rw [z1]; rfl)]
          refine ⟨_, s9 _ _ g0, _, rfl, rfl, ?_⟩
          by_cases z2 : natD r.2.2.1 = 0
          · rw [if_pos (by rw [z2]; rfl)]
            exact go fun _ => by rw [w2, z2]
          · rw [if_neg (fun z => z2 (by have := V.int.inj z; omega))]
            exact bad H1 (fun z => z2 (by rw [← w2]; exact z.2.2 (by rw [w1, z1]))) (s7.trans s10)
        · rw [if_neg (fun z => z1 (by have := V.int.inj z; omega))]
          exact go fun h => absurd (by rw [← w1]; exact h) z1
      · rw [decide_eq_false it0, if_pos (by decide)]
        exact bad H1 (fun z => it0 (by rw [en]; exact z.2.1)) (s7.trans s10)
    rintro σ H' ⟨v3, v4, rfl, s1, pre⟩
    refine k0 _ _ ?_
    walk_at "rd"
    have := q 0 H' (.inl ⟨all, .inl ⟨rfl, fun j hj => pre j (by rw [List.length_map, la]; exact hj)⟩⟩) (s7.trans s1)
    rw [if_pos rfl] at this
    exact this
end
section
variable {P : Program} {w : World} {K : PySem.W.Frag} {mg : Str → Option Value} {base : Heap}
theorem ok_Tree_M_of {f0 p0 : Addr} {fd : FuncData} (F : FunD K "of" "Tree.of" (defArgs s_Tree_M_of) (defBody s_Tree_M_of) (defScope s_Tree_M_of) [] [] f0 fd) (M : CSta K (He.ga K "Tree") (.type "type") "of" p0 f0) (R : ClX.CRead K (He.ga K "Tree") (.type "type")) (T : Tx P K mg) (C_check_rows : Cal P w K mg base CX0 4 "check_rows" ["rows", "most"] spCheckG) (C_Tree_MU_initU : CalI P w K mg base (L2.CX P w) 3 (He.ga K "Tree") ["self", "rows"] (spTreeG K))  : CalS P w K mg base (L2.CX P w) 5 (He.ga K "Tree") "of" ["rows"] (spOfG K) := by
  refine ⟨p0, f0, fd, M, R, F.bindsN bn_Tree_M_of, okX F sc_Tree_M_of (fun vs H Q E h => ?_) (fun f cdv A outer s H vs Q E hr h => ?_)⟩
  · first | (obtain ⟨rfl, _⟩ := h; rfl) | (obtain ⟨_, rfl, _⟩ := h; rfl) | (obtain ⟨_, _, rfl, _⟩ := h; rfl) | (obtain ⟨_, _, _, rfl, _⟩ := h; rfl) | (obtain ⟨_, _, _, _, rfl, _⟩ := h; rfl) | (obtain ⟨_, _, _, _, _, rfl, _⟩ := h; rfl) | (obtain ⟨_, _, _, _, _, _, rfl, _⟩ := h; rfl) | (obtain ⟨_, _, _, _, _, _, _, rfl, _⟩ := h; rfl) | (obtain ⟨_, _, _, _, _, _, _, _, rfl, _⟩ := h; rfl) | (obtain ⟨_, _, _, _, _, _, _, _, _, rfl, _⟩ := h; rfl) | (obtain ⟨_, _, _, _, _, _, _, _, _, _, rfl, _⟩ := h; rfl) | (obtain ⟨_, _, _, _, _, _, _, _, _, _, _, rfl, _⟩ := h; rfl) | (obtain ⟨_, _, _, _, _, _, _, _, _, _, _, _, rfl, _⟩ := h; rfl)
  · skip
    refine ⟨_, (pss_cons (ps_set (i := 1) sc_Tree_M_of.nd rfl (Or.inl rfl) (Fx.pe_cal C_check_rows (hr.mono (by decide)) pass0 (Fx.pa_c (pv 0) (Fx.pa_c (Fx.pe_cst T.c_MOST_MARKS) pa_nil))))
        (pss_cons (ps_if (PW.pt (pw_or (pt_cmpR op_notNon (pv 1) pe_non (nomark _)) (pw_or1 (pt_not (pt_chain op_le op_le pe_int (Fx.pe_cB Fx.len_Q T.b_len (by decide +kernel) (Fx.pa_c (pv 0) pa_nil)) (Fx.pe_cst T.c_MOST_THINGS)))))) (pss_one (Fx.ps_raiseFx rfl T.x_BadTree T.g_BadTree T.b_super hr (takes_of rfl rfl rfl rfl) (Fx.pa_c (pe_ifExp (pt_cmpR op_notNon (pv 1) pe_non (nomark _)) (pv 1) pe_int) pa_nil))) pss_nil)
        (pss_cons (ps_set (i := 2) sc_Tree_M_of.nd rfl (Or.inl rfl) (Fx.pe_mk C_Tree_MU_initU (hr.mono (by decide)) T.g_Tree (passes_call (takes_of rfl rfl rfl rfl) (fun _ _ _ _ z => z)) (Fx.pa_c (pe_lc (own := [("row", 3)]) rfl sc_Tree_M_of.nd (Fx.pi_Q (pv 0)) (blkOk_by (N := N_Tree_M_of) (sc := defScope s_Tree_M_of) (by decide +kernel)) (fun _ _ _ _ _ => (pg_name (i := 3) sc_Tree_M_of.nd rfl (Or.inl rfl))) (fun _ _ _ _ _ => pts_nil) (fun _ _ _ _ _ => (pe_tup (Fx.pa_c (pe_ix Fx.ix_T (pv 3) pe_int (fun _ _ => rfl)) (Fx.pa_c (pe_ix Fx.ix_T (pv 3) pe_int (fun _ _ => rfl)) pa_nil))))) pa_nil)))
        (pss_cons (ps_fld (pv 2) (pe_op op_cat (pe_lst (Fx.pa_c pe_int pa_nil)) (pe_lc (own := [("row", 3)]) rfl sc_Tree_M_of.nd (Fx.pi_Q (pv 0)) (blkOk_by (N := N_Tree_M_of) (sc := defScope s_Tree_M_of) (by decide +kernel)) (fun _ _ _ _ _ => (pg_name (i := 3) sc_Tree_M_of.nd rfl (Or.inl rfl))) (fun _ _ _ _ _ => pts_nil) (fun _ _ _ _ _ => (pe_ix Fx.ix_T (pv 3) pe_int (fun _ _ => rfl))))) rfl)
        (pss_cons (ps_fld (pv 2) (pe_op op_cat (pe_lst (Fx.pa_c pe_int pa_nil)) (pe_lc (own := [("row", 3)]) rfl sc_Tree_M_of.nd (Fx.pi_Q (pv 0)) (blkOk_by (N := N_Tree_M_of) (sc := defScope s_Tree_M_of) (by decide +kernel)) (fun _ _ _ _ _ => (pg_name (i := 3) sc_Tree_M_of.nd rfl (Or.inl rfl))) (fun _ _ _ _ _ => pts_nil) (fun _ _ _ _ _ => (pe_ix Fx.ix_T (pv 3) pe_int (fun _ _ => rfl))))) rfl)
        (pss_one (ps_ret (pv 2)))))))), ?_⟩
    obtain ⟨p, as, rs, rfl, BR0, n1, n60, qe, q⟩ := h
    have hp := BR0.h
    have la := BR0.la
    obtain ⟨n, en⟩ : ∃ n, n = rs.length := ⟨_, rfl⟩
    have Sqs : ∀ {H1 H2 : Hp}, Sq H1 p (as.map V.ref) → Same H1 H2 → Sq H2 p (as.map V.ref) := fun h s => sq_same h s
    refine seqI fun K1 k1 => ?_
    walk_at "rd"
    refine ⟨p, as, rs, rfl, BR0, n1, n60, fun k H1 fb s1 => k1 _ _ ?_⟩
    clear k1
    by_cases k0 : k = 0
    · rw [if_pos k0]
      subst k0
      have q := q fb
      clear qe
      obtain ⟨all, am⟩ : (∀ r ∈ rs, RowG rs.length r) ∧ ∀ j < rs.length, Among rs j := by
        rcases fb with ⟨all, ⟨_, am⟩ | ⟨j, _, e, _⟩⟩ | ⟨j, _, _, e, _⟩
        · exact ⟨all, am⟩
        · omega
        · omega
      obtain ⟨lh, lb⟩ := holB_len rs
      obtain ⟨vh, vb⟩ := holB_le all
      rw [← en] at lh lb vh vb am n1 n60
      obtain ⟨rk, hrk⟩ := rank_of_it (N := n + 1) vh rfl fun t t1 t2 => by
        have := (am (t - 1) (by omega)).2.1
        rw [← en, show t - 1 + 1 = t by omega] at this
        exact this
      refine seqI fun K1 k1 => ?_
      walk_at "rd"
      refine ⟨_, Sqs hp s1, ?_⟩
      rw [show (((as.map V.ref).length : Nat) : Int) = (n : Nat) by rw [List.length_map, la, en], if_pos (by omega), if_pos (by omega)]
      refine k1 _ _ ?_
      clear k1
      refine seqI fun K1 k1 => ?_
      walk_at "rd"
      have Sq1 := Sqs hp s1
      refine lcQI (K := K) (a := p) (xs := as.map V.ref) (fun D i H' => ∃ bs : List Addr, bs.length = i ∧ H' D = some (.lst (bs.map V.ref)) ∧ (∀ (j : Nat) (b : Addr) (r : BR), bs[j]? = some b → rs[j]? = some r → ∃ v0 v1, H' b = some (.tup [v1, v0]) ∧ Dv H v1 r.2.1 ∧ Dv H v0 r.1) ∧ Same H1 H') rfl Sq1 (fun D nD => ⟨[], rfl, upd_same, fun j b r e => (by cases e), same_new nD⟩) (fun D i H' _ ⟨_, _, _, _, s⟩ => s) ?_ ?_
      · rintro D nD i y H' hy ⟨bs, lb2, hD, hbs, s2⟩
        obtain ⟨a, r, rfl, ha, hr2, hm, ⟨v0, v1, v2, v3, g0, g1, g2, g3, g4⟩, hin⟩ := BR0.at_ hy
        have g0 := s2 _ _ (s1 _ _ g0)
        refine ⟨rfl, ?_⟩
        walk_at "rd"
        refine ⟨_, g0, _, rfl, _, g0, _, rfl, by decide, fun pq npq => ?_⟩
        have s3 := same_new (o := .tup [v1, v0]) npq
        have hq3 : (upd H' pq (.tup [v1, v0])) pq = some (.tup [v1, v0]) := upd_same
        generalize upd H' pq (.tup [v1, v0]) = H3 at s3 hq3
        have hD3 := s3 _ _ hD
        have keep : ∀ {a : Addr} {xs : List V}, H3 a = some (.tup xs) → (upd H3 D (.lst (bs.map V.ref ++ [.ref pq]))) a = some (.tup xs) := fun h => by
          rw [upd_ne (ne_of h hD3 (by intro z; cases z))]
          exact h
        refine ⟨_, hD3, by rw [List.length_map, lb2]; exact Nat.lt_of_lt_of_le (by omega : _ < 100) (by decide), bs ++ [pq], by rw [List.length_append, lb2]; rfl, by rw [List.map_append]; rfl, fun j b r' e1 e2 => ?_, Same.put (s2.trans s3) nD⟩
        by_cases hj : j < bs.length
        · rw [List.getElem?_append_left hj] at e1
          obtain ⟨w0, w1, k1, k2, k3⟩ := hbs j b r' e1 e2
          exact ⟨w0, w1, keep (s3 _ _ k1), k2, k3⟩
        · have hj2 := (List.getElem?_eq_some_iff.mp e1).1
          rw [List.length_append, List.length_singleton] at hj2
          have ej : j = bs.length := by omega
          rw [ej, List.getElem?_append_right (Nat.le_refl _), Nat.sub_self] at e1
          cases e1
          rw [ej, lb2, hr2] at e2
          cases e2
          exact ⟨v0, v1, keep hq3, g2, g1⟩
      rintro D H2 nD ⟨bs, lb2, hD, hbs, s2⟩ x dx nx ndx ne
      rw [List.length_map, la] at lb2
      have s3 := same_new (o := .own x) ndx
      have nx3 : (upd H2 dx (.own x)) x = none := by rw [upd_ne (Ne.symm ne)]; exact nx
      have s4 := s3.trans (same_new (o := .ins (He.ga K "Tree") dx []) nx3)
      have hx4 : (upd (upd H2 dx (.own x)) x (.ins (He.ga K "Tree") dx [])) x = some (.ins (He.ga K "Tree") dx []) := upd_same
      have f4 : ∀ a, (upd (upd H2 dx (.own x)) x (.ins (He.ga K "Tree") dx [])) a = none → H2 a = none := fun a h => s4.free h
      show spTreeG K [.ref x, .ref D] (upd (upd H2 dx (.own x)) x (.ins (He.ga K "Tree") dx [])) _ _
      generalize upd (upd H2 dx (.own x)) x (.ins (He.ga K "Tree") dx []) = H4 at s4 hx4 f4
      have lps : (rs.map fun r => ((r.2.1, r.1) : PR)).length = rs.length := List.length_map ..
      have ehP : holP (rs.map fun r => ((r.2.1, r.1) : PR)) = holB rs := by
        rw [holP, holB, List.map_map]
        rfl
      have pz : ∀ k, FirstBadP (rs.map fun r => ((r.2.1, r.1) : PR)) k → k = 0 := fun k fb => by
        rcases fb with ⟨_, ⟨e, _⟩ | ⟨j, hj, _, cy, _⟩⟩ | ⟨j, r, hr, _, no, _⟩
        · exact e
        · rw [ehP] at cy
          rw [lps, ← en] at hj
          exact absurd cy (cyc_no vh hrk (by omega) (by omega) rfl)
        · rw [List.getElem?_map] at hr
          cases e : rs[j]? with
          | none => rw [e] at hr; cases hr
          | some r0 =>
            rw [e] at hr
            cases hr
            have g := all r0 (List.mem_of_getElem? e)
            refine absurd ⟨by rw [lps]; exact g.2.1, ?_⟩ no
            exact mkG_of g.1
      refine ⟨x, D, dx, bs, rs.map fun r => (r.2.1, r.1), rfl, hx4, ⟨.inl (s4 _ _ hD), by rw [List.length_map, lb2], fun j a r e1 e2 => ?_⟩, by rw [lps, ← en]; exact n1, by rw [lps, ← en]; exact n60, fun r hr => ?_, fun k d H' k0 fb => absurd (pz k fb) k0, fun _ A t H5 kx fr L ok eh em F => ⟨rfl, k1 _ _ ?_⟩⟩
      · rw [List.getElem?_map] at e2
        have hj := (List.getElem?_eq_some_iff.mp e1).1
        rw [List.getElem?_eq_getElem (by omega)] at e2
        cases e2
        obtain ⟨w0, w1, k1, k2, k3⟩ := hbs j a _ e1 (List.getElem?_eq_getElem (by omega))
        exact ⟨w1, w0, s4 _ _ k1, ((k2.same s1).same s2).same s4, ((k3.same s1).same s2).same s4⟩
      · obtain ⟨r0, h0, rfl⟩ := List.mem_map.mp hr
        have := mkL_asc (all r0 h0).1
        have := nodup_lt (this.1.imp fun h => Nat.ne_of_lt h) (n := 32) this.2
        show (mkL r0.1).length ≤ 40
        omega
      clear k1
      have s5 : Same H2 H5 := fun a o h => kx a o (fun e => by rw [e, nx] at h; cases h) (s4 _ _ h)
      have fr5 : ∀ a ∈ x :: A.own, H2 a = none := fun a ha => by
        rcases List.mem_cons.mp ha with rfl | ha
        · exact nx
        · exact f4 a (fr a ha)
      have s15 := s2.trans s5
      rw [ehP] at eh
      have em : t.mks = [] :: rs.map fun r => mkL r.1 := by
        rw [em, mks0, nat2, List.map_map, List.map_map]
        congr 1
        refine List.map_congr_left fun r hr => once_id ((mkL_asc (all r hr).1).1.imp fun h => Nat.ne_of_lt h)
      clear fr kx s4 hx4 f4 hbs hD F s5 pz
      obtain ⟨dx5, hx5⟩ := L.ins
      have fr1 : ∀ a ∈ x :: A.own, H1 a = none := fun a ha => s2.free (fr5 a ha)
      clear fr5 s2 nD nx3 s3 nx ndx
      have Sq5 := Sqs Sq1 s15
      have R15 : ∀ {a : Addr} {r : BR}, BRAt H a r → BRAt H5 a r := fun h => (h.same s1).same s15
      have lB : (rs.map fun r => natD r.2.2.1).length = n := by rw [List.length_map, en]
      have lF : (rs.map fun r => natD r.2.2.2).length = n := by rw [List.length_map, en]
      have zz : 1 + n ≤ sizeLine := Nat.le_trans (by omega : _ ≤ 100) (by decide)
      refine seqI fun K1 k1 => ?_
      walk_at "rd"
      refine ⟨by decide, fun q0 n0 => ?_⟩
      have sA := same_new (o := .lst [.int 0]) n0
      have hq0 : (upd H5 q0 (.lst [.int 0])) q0 = some (.lst [.int 0]) := upd_same
      generalize upd H5 q0 (.lst [.int 0]) = H6 at sA hq0
      refine lcQ (K := K) (a := p) (xs := as.map V.ref) (fun i => [V.int ((rs.map fun r => natD r.2.2.1).getD i 0 : Nat)]) rfl (Sqs Sq5 sA) ?_ ?_
      · intro D nD i y H3 hy h3
        obtain ⟨a, r, rfl, ha, hr2, hm, hra, hin⟩ := BR0.at_ hy
        obtain ⟨v0, v1, v2, v3, h4, g1, g2, g3, g4⟩ := (R15 hra).same (sA.trans h3.1)
        have e : (rs.map fun r => natD r.2.2.1).getD i 0 = natD r.2.2.1 := by rw [List.getD_eq_getElem?_getD, List.getElem?_map, hr2]; rfl
        refine ⟨rfl, ?_⟩
        walk_at "rd"
        refine ⟨_, h4, _, rfl, ?_⟩
        rw [(g3.nat (all r hm).2.2.1).1]
        exact h3.put nD (fun _ => Nat.le_refl _) (by omega) (Same.refl _) (by rw [e])
      intro D7 H7 nD7 s67 hD7
      rw [flat_one, show (as.map V.ref).length = n by rw [List.length_map, la, en], range_getD lB] at hD7
      refine ⟨D7, rfl, _, s67 _ _ hq0, _, hD7, by rw [ni_len, lB]; exact zz, fun qb nqb => ?_⟩
      rw [show [V.int 0] ++ ni (rs.map fun r => natD r.2.2.1) = ni (besB rs) from rfl]
      have s8 := (sA.trans s67).trans (same_new (o := .lst (ni (besB rs))) nqb)
      have hb8 : (upd H7 qb (.lst (ni (besB rs)))) qb = some (.lst (ni (besB rs))) := upd_same
      have nqb5 := (sA.trans s67).free nqb
      generalize upd H7 qb (.lst (ni (besB rs))) = H8 at s8 hb8
      have hx8 := s8 _ _ hx5
      have L8 := (L.same s8).fBes hx8 hb8 (L.nown nqb5)
      refine ⟨_, _, _, hx8, T.cl_Tree, T.n_Tree_besides, (by show 5 < 1000; decide), k1 _ _ ?_⟩
      clear k1
      show tSeq _ _ _ _ (upd H8 x (.ins (He.ga K "Tree") dx5 (trF { A with bes := qb })))
      have s19 : ∀ a o, a ≠ x → H1 a = some o → (upd H8 x (.ins (He.ga K "Tree") dx5 (trF { A with bes := qb }))) a = some o := fun a o ne h => by
        rw [upd_ne ne]
        exact s8 _ _ (s15 _ _ h)
      have hx9 : (upd H8 x (.ins (He.ga K "Tree") dx5 (trF { A with bes := qb }))) x = some (.ins (He.ga K "Tree") dx5 (trF { A with bes := qb })) := upd_same
      generalize upd H8 x (.ins (He.ga K "Tree") dx5 (trF { A with bes := qb })) = H9 at s19 hx9 L8
      have nx1 := fr1 x List.mem_cons_self
      have S19 : Same H1 H9 := fun a o h => s19 a o (fun e => by rw [e, nx1] at h; cases h) h
      clear s19 hb8 hx8 s8 hD7 s67 hq0 sA L hx5 Sq5 R15
      have Sq9 := Sqs Sq1 S19
      have nqb1 := s15.free nqb5
      clear s15 nqb5 nqb
      refine seqI fun K1 k1 => ?_
      walk_at "rd"
      refine ⟨by decide, fun q0 n0 => ?_⟩
      have sA := same_new (o := .lst [.int 0]) n0
      have hq0 : (upd H9 q0 (.lst [.int 0])) q0 = some (.lst [.int 0]) := upd_same
      generalize upd H9 q0 (.lst [.int 0]) = H10 at sA hq0
      refine lcQ (K := K) (a := p) (xs := as.map V.ref) (fun i => [V.int ((rs.map fun r => natD r.2.2.2).getD i 0 : Nat)]) rfl (Sqs Sq9 sA) ?_ ?_
      · intro D nD i y H3 hy h3
        obtain ⟨a, r, rfl, ha, hr2, hm, hra, hin⟩ := BR0.at_ hy
        obtain ⟨v0, v1, v2, v3, h4, g1, g2, g3, g4⟩ := (((hra.same s1).same S19).same sA).same h3.1
        have e : (rs.map fun r => natD r.2.2.2).getD i 0 = natD r.2.2.2 := by rw [List.getD_eq_getElem?_getD, List.getElem?_map, hr2]; rfl
        refine ⟨rfl, ?_⟩
        walk_at "rd"
        refine ⟨_, h4, _, rfl, ?_⟩
        rw [(g4.nat (all r hm).2.2.2).1]
        exact h3.put nD (fun _ => Nat.le_refl _) (by omega) (Same.refl _) (by rw [e])
      intro D11 H11 nD11 s11 hD11
      rw [flat_one, show (as.map V.ref).length = n by rw [List.length_map, la, en], range_getD lF] at hD11
      refine ⟨D11, rfl, _, s11 _ _ hq0, _, hD11, by rw [ni_len, lF]; exact zz, fun qf nqf => ?_⟩
      rw [show [V.int 0] ++ ni (rs.map fun r => natD r.2.2.2) = ni (0 :: rs.map fun r => natD r.2.2.2) from rfl]
      have s12 := (sA.trans s11).trans (same_new (o := .lst (ni (0 :: rs.map fun r => natD r.2.2.2))) nqf)
      have hf12 : (upd H11 qf (.lst (ni (0 :: rs.map fun r => natD r.2.2.2)))) qf = some (.lst (ni (0 :: rs.map fun r => natD r.2.2.2))) := upd_same
      have nqf9 := (sA.trans s11).free nqf
      generalize upd H11 qf (.lst (ni (0 :: rs.map fun r => natD r.2.2.2))) = H12 at s12 hf12
      have hx12 := s12 _ _ hx9
      have L12 := (L8.same s12).fFir hx12 hf12 (L8.nown nqf9)
      refine ⟨_, _, _, hx12, T.cl_Tree, T.n_Tree_firsts, (by show 5 < 1000; decide), k1 _ _ ?_⟩
      clear k1
      walk_at "rd"
      have nqf1 := S19.free nqf9
      rw [eh, em] at L12
      refine q x { hol := A.hol, mr := A.mr, bes := qb, fir := qf, num := A.num, ds := A.ds } _ ?_ ?_ L12
      · intro a o h
        have h1 := s1 _ _ h
        show (upd H12 x _) a = _
        rw [upd_ne (fun e => by rw [e, nx1] at h1; cases h1)]
        exact s12 _ _ (S19 _ _ h1)
      · intro a ha
        refine s1.free ?_
        simp only [TrO.own, List.mem_cons] at ha fr1
        rcases ha with h | h | h | h | h | h | h
        · exact fr1 a (by simp [h])
        · exact fr1 a (by simp [h])
        · exact fr1 a (by simp [h])
        · rw [h]; exact nqb1
        · rw [h]; exact nqf1
        · exact fr1 a (by simp [h])
        · exact fr1 a (by simp [h])
    · rw [if_neg k0]
      clear q
      refine seqI fun K1 k1 => ?_
      walk_at "rd"
      exact fun d nd => qe k d _ k0 fb (s1.trans (same_new nd)) (s1.free nd) upd_same
end
section
variable {P : Program} {w : World} {K : PySem.W.Frag} {mg : Str → Option Value} {base : Heap}
theorem ok_Tree_M_check_thing {f0 : Addr} {fd : FuncData} (F : FunD K "check_thing" "Tree.check_thing" (defArgs s_Tree_M_check_thing) (defBody s_Tree_M_check_thing) (defScope s_Tree_M_check_thing) [] [] f0 fd) (M : Meth K (He.ga K "Tree") "check_thing" f0) (T : Tx P K mg) (C_is_integer : Cal P w K mg base CX0 1 "is_integer" ["thing", "low", "high"] spIsI)  : CalM P w K mg base (L2.CX P w) 3 (He.ga K "Tree") "check_thing" ["self", "thing"] (spChk K) := by
  refine ⟨f0, fd, M, F.bindsN bn_Tree_M_check_thing, okX F sc_Tree_M_check_thing (fun vs H Q E h => ?_) (fun f cdv A outer s H vs Q E hr h => ?_)⟩
  · first | (obtain ⟨rfl, _⟩ := h; rfl) | (obtain ⟨_, rfl, _⟩ := h; rfl) | (obtain ⟨_, _, rfl, _⟩ := h; rfl) | (obtain ⟨_, _, _, rfl, _⟩ := h; rfl) | (obtain ⟨_, _, _, _, rfl, _⟩ := h; rfl) | (obtain ⟨_, _, _, _, _, rfl, _⟩ := h; rfl) | (obtain ⟨_, _, _, _, _, _, rfl, _⟩ := h; rfl) | (obtain ⟨_, _, _, _, _, _, _, rfl, _⟩ := h; rfl) | (obtain ⟨_, _, _, _, _, _, _, _, rfl, _⟩ := h; rfl) | (obtain ⟨_, _, _, _, _, _, _, _, _, rfl, _⟩ := h; rfl) | (obtain ⟨_, _, _, _, _, _, _, _, _, _, rfl, _⟩ := h; rfl) | (obtain ⟨_, _, _, _, _, _, _, _, _, _, _, rfl, _⟩ := h; rfl) | (obtain ⟨_, _, _, _, _, _, _, _, _, _, _, _, rfl, _⟩ := h; rfl)
  · skip
    refine ⟨_, (pss_one (ps_if (pt_not (pt_val (Fx.pe_cal C_is_integer (hr.mono (by decide)) pass0 (Fx.pa_c (pv 1) (Fx.pa_c pe_int (Fx.pa_c (pe_op op_sub (Fx.pe_cB Fx.len_L T.b_len (by decide +kernel) (Fx.pa_c (Fx.pe_fldK (K := K) rfl (pv 0) rfl) pa_nil)) pe_int) pa_nil)))))) (pss_one (Fx.ps_raiseFx rfl T.x_NoThing T.g_NoThing T.b_super hr (takes_of rfl rfl rfl rfl) (Fx.pa_c (pv 1) pa_nil))) pss_nil)), ?_⟩
    obtain ⟨x, A, t, v, rfl, L, ok, h⟩ := h
    obtain ⟨dx, hx⟩ := L.ins
    walk_at "rd"
    refine ⟨_, _, _, hx, T.cl_Tree, T.n_Tree_holders, _, rfl, _, rfl, _, L.hol, ?_⟩
    rw [ok.n_]
    rcases h with ⟨i, rfl, hi, q⟩ | ⟨h, q⟩
    · refine ⟨_, _, _, rfl, .inl ⟨_, rfl, by omega, by omega, true, rfl, ?_⟩⟩
      walk_at "rd"
      exact q H (Same.refl H)
    · refine ⟨_, _, _, rfl, .inr ⟨h, false, rfl, ?_⟩⟩
      walk_at "rd"
      exact fun d nd => q d _ (same_new nd) nd upd_same
end
section
variable {P : Program} {w : World} {K : PySem.W.Frag} {mg : Str → Option Value} {base : Heap}
theorem ok_Tree_M_parts_of {f0 : Addr} {fd : FuncData} (F : FunD K "parts_of" "Tree.parts_of" (defArgs s_Tree_M_parts_of) (defBody s_Tree_M_parts_of) (defScope s_Tree_M_parts_of) [] [] f0 fd) (M : Meth K (He.ga K "Tree") "parts_of" f0) (T : Tx P K mg) (C_Tree_M_check_thing : CalM P w K mg base (L2.CX P w) 3 (He.ga K "Tree") "check_thing" ["self", "thing"] (spChk K))  : CalM P w K mg base (L2.CX P w) 4 (He.ga K "Tree") "parts_of" ["self", "thing"] (spParts K) := by
  refine ⟨f0, fd, M, F.bindsN bn_Tree_M_parts_of, okX F sc_Tree_M_parts_of (fun vs H Q E h => ?_) (fun f cdv A outer s H vs Q E hr h => ?_)⟩
  · first | (obtain ⟨rfl, _⟩ := h; rfl) | (obtain ⟨_, rfl, _⟩ := h; rfl) | (obtain ⟨_, _, rfl, _⟩ := h; rfl) | (obtain ⟨_, _, _, rfl, _⟩ := h; rfl) | (obtain ⟨_, _, _, _, rfl, _⟩ := h; rfl) | (obtain ⟨_, _, _, _, _, rfl, _⟩ := h; rfl) | (obtain ⟨_, _, _, _, _, _, rfl, _⟩ := h; rfl) | (obtain ⟨_, _, _, _, _, _, _, rfl, _⟩ := h; rfl) | (obtain ⟨_, _, _, _, _, _, _, _, rfl, _⟩ := h; rfl) | (obtain ⟨_, _, _, _, _, _, _, _, _, rfl, _⟩ := h; rfl) | (obtain ⟨_, _, _, _, _, _, _, _, _, _, rfl, _⟩ := h; rfl) | (obtain ⟨_, _, _, _, _, _, _, _, _, _, _, rfl, _⟩ := h; rfl) | (obtain ⟨_, _, _, _, _, _, _, _, _, _, _, _, rfl, _⟩ := h; rfl)
  · skip
    obtain ⟨f_Tree_M_check_thing, fd_Tree_M_check_thing, m_Tree_M_check_thing, b_Tree_M_check_thing, G_Tree_M_check_thing⟩ := C_Tree_M_check_thing.ex
    refine ⟨_, (pss_cons (ps_expr (pe_meth (pv 0) T.cl_Tree m_Tree_M_check_thing G_Tree_M_check_thing (hr.mono (by decide)) b_Tree_M_check_thing .nil (passes_call (takes_of rfl rfl rfl rfl) (fun _ _ _ _ z => z)) (Fx.pa_c (pv 1) pa_nil)))
        (pss_cons (ps_set (i := 2) sc_Tree_M_parts_of.nd rfl (Or.inl rfl) (pe_lst pa_nil))
        (pss_cons (ps_set (i := 3) sc_Tree_M_parts_of.nd rfl (Or.inl rfl) (pe_ix Fx.ix_L (Fx.pe_fldK (K := K) rfl (pv 0) rfl) (pv 1) (fun _ _ => rfl)))
        (pss_cons (ps_while (passes_of rfl) (pt_cmpR op_ne (pv 3) pe_int (nomark _)) (pss_cons (ps_expr (pe_bm PySem.F.plainAttrs_list PySem.F.slot_list_append PySem.F.type_list_append mt_append (pv 2) (Fx.pa_c (pv 3) pa_nil)))
        (pss_one (ps_set (i := 3) sc_Tree_M_parts_of.nd rfl (Or.inl rfl) (pe_ix Fx.ix_L (Fx.pe_fldK (K := K) rfl (pv 0) rfl) (pv 3) (fun _ _ => rfl))))))
        (pss_one (ps_ret (Fx.pe_cTy Fx.tup_L T.b_tuple (by decide +kernel) (Fx.pa_c (pv 2) pa_nil)))))))), ?_⟩
    obtain ⟨x, A, t, P, v, rfl, L, ok, F, h⟩ := h
    obtain ⟨dx, hx⟩ := L.ins
    refine seqI fun K1 k1 => ?_
    walk_at "rd"
    refine ⟨_, _, hx, rfl, x, A, t, v, rfl, L, ok, ?_⟩
    rcases h with ⟨i, rfl, hi, q⟩ | h
    · refine .inl ⟨i, rfl, hi, fun H1 s1 => k1 _ _ ?_⟩
      clear k1
      have L1 := L.same s1
      have hx1 := s1 _ _ hx
      clear L hx
      refine seqI fun K1 k1 => ?_
      walk_at "rd"
      refine ⟨by decide, fun p np => k1 _ _ ?_⟩
      clear k1
      have sp := same_new (o := .lst []) np
      have hp : (upd H1 p (.lst [])) p = some (.lst []) := upd_same
      refine seqI fun K1 k1 => ?_
      walk_at "rd"
      refine ⟨_, _, _, sp _ _ hx1, T.cl_Tree, T.n_Tree_firsts, _, rfl, _, rfl, _, (L1.same sp).fir, _, ni_at (by rw [ok.lf]; omega), k1 _ _ ?_⟩
      clear k1
      have fl : Chain t.bes (t.fir.getD i 0) (partsOf P i) := by
        unfold partsOf
        by_cases g : i = 0
        · rw [if_pos g, g]
          exact F.f0
        · rw [if_neg g]
          exact F.ch i (by omega) hi
      have fm : ∀ z ∈ partsOf P i, z ≤ t.n := fun z hz => by
        unfold partsOf at hz
        by_cases g : i = 0
        · rw [if_pos g] at hz
          cases hz
        · rw [if_neg g] at hz
          exact ((F.mem i z hi).mp hz).2.1
      have fn : (partsOf P i).Nodup := by
        unfold partsOf
        by_cases g : i = 0
        · rw [if_pos g]
          exact .nil
        · rw [if_neg g, List.getD_eq_getElem?_getD]
          cases e : P[i]? with
          | none => exact .nil
          | some l => exact F.nd l (List.mem_of_getElem? e)
      have fz := nodup_lt fn (n := t.n + 1) fun z hz => by have := fm z hz; omega
      generalize partsOf P i = ps at fl fm fn q fz
      refine seqI fun K1 k1 => ?_
      refine whileF (fun m σ H' => ∃ (f : Nat) (ds rs : List Nat), σ = [some (.ref x), some (.int i), some (.ref p), some (.int f)] ∧ ps = ds ++ rs ∧ m = rs.length ∧ Chain t.bes f rs ∧ H' = upd H1 p (.lst (ni ds))) ps.length ⟨_, [], ps, rfl, rfl, rfl, fl, rfl⟩ ?_
      rintro m σ H' ⟨f, ds, rs, rfl, ep, rfl, hc, rfl⟩ A2 B2 ka kb
      have sq := same_new (o := .lst (ni ds)) np
      walk_at "rd"
      cases rs with
      | nil =>
        have hc : f = 0 := hc
        rw [if_pos (by rw [hc]; rfl)]
        refine kb _ (k1 _ _ ?_)
        clear ka kb k1
        rw [List.append_nil] at ep
        walk_at "rd"
        refine fun q1 nq1 => ?_
        rw [← ep]
        rw [← ep] at nq1 sq
        exact q q1 _ (s1.trans (sq.trans (same_new nq1))) (s1.free (sq.free nq1)) upd_same
      | cons b rs =>
        obtain ⟨rfl, hb0, hc⟩ := hc
        rw [if_neg (fun z => hb0 (by omega))]
        refine ka _ ?_
        clear ka kb k1
        have hbn : f ≤ t.n := fm f (by rw [ep]; exact List.mem_append_right _ List.mem_cons_self)
        have hl : ds.length < sizeLine := by
          have e := congrArg List.length ep
          rw [List.length_append] at e
          have := ok.n60
          exact Nat.lt_of_lt_of_le (by omega : _ < 100) (by decide)
        walk_at "rd"
        refine ⟨tyL upd_same, ?_⟩
        walk_at "rd"
        rw [upd_upd]
        have sr := same_new (o := .lst (ni ds ++ [.int (f : Nat)])) np
        have en : ni ds ++ [.int (f : Nat)] = ni (ds ++ [f]) := by
          rw [ni, ni, List.map_append]
          rfl
        exact ⟨by rw [ni_len]; exact hl, _, _, _, sr _ _ hx1, T.cl_Tree, T.n_Tree_besides, _, rfl, _, rfl, _, (L1.same sr).bes, _, ni_at (by rw [ok.lb]; omega), _, Nat.lt_succ_self _, _, rfl, ds ++ [f], rs, by rw [ep]; simp, rfl, hc, by rw [en]⟩
    · exact .inr h
end
section
variable {P : Program} {w : World} {K : PySem.W.Frag} {mg : Str → Option Value} {base : Heap}
theorem ok_Tree_MU_lenU {f0 : Addr} {fd : FuncData} (F : FunD K "__len__" "Tree.__len__" (defArgs s_Tree_MU_lenU) (defBody s_Tree_MU_lenU) (defScope s_Tree_MU_lenU) [] [] f0 fd) (M : Meth K (He.ga K "Tree") "__len__" f0) (T : Tx P K mg)   : CalM P w K mg base CX0 1 (He.ga K "Tree") "__len__" ["self"] (spLen K) := by
  refine ⟨f0, fd, M, F.bindsN bn_Tree_MU_lenU, ok0 F sc_Tree_MU_lenU (fun vs H Q E h => ?_) (fun f cdv A outer s H vs Q E hr h => ?_)⟩
  · first | (obtain ⟨rfl, _⟩ := h; rfl) | (obtain ⟨_, rfl, _⟩ := h; rfl) | (obtain ⟨_, _, rfl, _⟩ := h; rfl) | (obtain ⟨_, _, _, rfl, _⟩ := h; rfl) | (obtain ⟨_, _, _, _, rfl, _⟩ := h; rfl) | (obtain ⟨_, _, _, _, _, rfl, _⟩ := h; rfl) | (obtain ⟨_, _, _, _, _, _, rfl, _⟩ := h; rfl) | (obtain ⟨_, _, _, _, _, _, _, rfl, _⟩ := h; rfl) | (obtain ⟨_, _, _, _, _, _, _, _, rfl, _⟩ := h; rfl) | (obtain ⟨_, _, _, _, _, _, _, _, _, rfl, _⟩ := h; rfl) | (obtain ⟨_, _, _, _, _, _, _, _, _, _, rfl, _⟩ := h; rfl) | (obtain ⟨_, _, _, _, _, _, _, _, _, _, _, rfl, _⟩ := h; rfl) | (obtain ⟨_, _, _, _, _, _, _, _, _, _, _, _, rfl, _⟩ := h; rfl)
  · skip
    refine ⟨_, (pss_one (ps_ret (Fx.pe_cB Fx.len_L T.b_len (by decide +kernel) (Fx.pa_c (pe_slice Fx.sl_L (Fx.pe_fldK (K := K) rfl (pv 0) rfl) (po_some pe_int) po_none) pa_nil)))), ?_⟩
    obtain ⟨x, A, t, rfl, L, ok, h⟩ := h
    obtain ⟨dx, hx⟩ := L.ins
    walk_at "rd"
    refine ⟨_, _, _, hx, T.cl_Tree, T.n_Tree_holders, _, rfl, _, rfl, _, L.hol, fun p np => ?_⟩
    have e : ((cutV (ni t.hol) (some 1) none).length : Int) = (t.n : Nat) := by
      rw [show (1 : Int) = ((1 : Nat) : Int) from rfl, cutV_lo, List.length_drop, ni_len, ok.lh]
      omega
    rw [e]
    exact h _ (same_new np)
end
section
variable {P : Program} {w : World} {K : PySem.W.Frag} {mg : Str → Option Value} {base : Heap}
theorem ok_Tree_M_told {f0 : Addr} {fd : FuncData} (F : FunD K "told" "Tree.told" (defArgs s_Tree_M_told) (defBody s_Tree_M_told) (defScope s_Tree_M_told) [] [] f0 fd) (M : Meth K (He.ga K "Tree") "told" f0) (T : Tx P K mg)   : CalM P w K mg base CX0 1 (He.ga K "Tree") "told" ["self"] (spTold K) := by
  refine ⟨f0, fd, M, F.bindsN bn_Tree_M_told, ok0 F sc_Tree_M_told (fun vs H Q E h => ?_) (fun f cdv A outer s H vs Q E hr h => ?_)⟩
  · first | (obtain ⟨rfl, _⟩ := h; rfl) | (obtain ⟨_, rfl, _⟩ := h; rfl) | (obtain ⟨_, _, rfl, _⟩ := h; rfl) | (obtain ⟨_, _, _, rfl, _⟩ := h; rfl) | (obtain ⟨_, _, _, _, rfl, _⟩ := h; rfl) | (obtain ⟨_, _, _, _, _, rfl, _⟩ := h; rfl) | (obtain ⟨_, _, _, _, _, _, rfl, _⟩ := h; rfl) | (obtain ⟨_, _, _, _, _, _, _, rfl, _⟩ := h; rfl) | (obtain ⟨_, _, _, _, _, _, _, _, rfl, _⟩ := h; rfl) | (obtain ⟨_, _, _, _, _, _, _, _, _, rfl, _⟩ := h; rfl) | (obtain ⟨_, _, _, _, _, _, _, _, _, _, rfl, _⟩ := h; rfl) | (obtain ⟨_, _, _, _, _, _, _, _, _, _, _, rfl, _⟩ := h; rfl) | (obtain ⟨_, _, _, _, _, _, _, _, _, _, _, _, rfl, _⟩ := h; rfl)
  · skip
    refine ⟨_, (pss_one (ps_ret (Fx.pe_cTy Fx.tup_L T.b_tuple (by decide +kernel) (Fx.pa_c (pe_lc (own := [("thing", 1)]) rfl sc_Tree_M_told.nd (pi_range2 rfl T.b_range (Fx.pa_c pe_int (Fx.pa_c (Fx.pe_cB Fx.len_L T.b_len (by decide +kernel) (Fx.pa_c (Fx.pe_fldK (K := K) rfl (pv 0) rfl) pa_nil)) pa_nil))) (blkOk_by (N := N_Tree_M_told) (sc := defScope s_Tree_M_told) (by decide +kernel)) (fun _ _ _ _ _ => (pg_name (i := 1) sc_Tree_M_told.nd rfl (Or.inl rfl))) (fun _ _ _ _ _ => pts_nil) (fun _ _ _ _ _ => (pe_tup (Fx.pa_c (Fx.pe_cTy Fx.tup_L T.b_tuple (by decide +kernel) (Fx.pa_c (Fx.pe_cB (call_sortedDI rfl) T.b_sorted (by decide +kernel) (Fx.pa_c (pe_ix Fx.ix_L (Fx.pe_fldK (K := K) rfl (pv 0) rfl) (pv 1) (fun _ _ => rfl)) pa_nil)) pa_nil)) (Fx.pa_c (pe_ix Fx.ix_L (Fx.pe_fldK (K := K) rfl (pv 0) rfl) (pv 1) (fun _ _ => rfl)) (Fx.pa_c (pe_ix Fx.ix_L (Fx.pe_fldK (K := K) rfl (pv 0) rfl) (pv 1) (fun _ _ => rfl)) (Fx.pa_c (pe_ix Fx.ix_L (Fx.pe_fldK (K := K) rfl (pv 0) rfl) (pv 1) (fun _ _ => rfl)) pa_nil))))))) pa_nil)))), ?_⟩
    obtain ⟨x, A, t, rfl, L, ok, q⟩ := h
    obtain ⟨dx, hx⟩ := L.ins
    walk_at "rd"
    generalize hte : tTup _ = te
    generalize hg : gName 1 = g
    generalize htt : tYes = tt
    unfold tLc
    walk_at "rd"
    have en : (((ni t.hol).length : Nat) : Int) - 1 = (t.n : Nat) := ok.n_
    refine ⟨_, _, _, hx, T.cl_Tree, T.n_Tree_holders, _, rfl, _, rfl, _, L.hol, by decide, by decide, sz0 ?_, sz1 ?_, fun D nD => ?_⟩
    · rw [ni_len, ok.lh]
      have := ok.n60
      omega
    · rw [ni_len, ok.lh]
      have := ok.n60
      omega
    rw [ok.n_, Int.toNat_natCast]
    have hxD := none_ne hx nD
    refine lc_range (lo := 1) (n := t.n) (g := g) (tt := tt) (te := te) (vs := [1]) (σ := [some (.ref x), none]) (fun i H' => ∃ as : List Addr, as.length = i ∧ H' D = some (.lst (as.map V.ref)) ∧ (∀ (j : Nat) (a : Addr), as[j]? = some a → RowAt H' a (rowT t (j + 1))) ∧ Same H H') ⟨[], rfl, upd_same, fun j a e => (by cases e), same_new nD⟩ ?_ ?_
    · rintro i H1 hi ⟨as, la, hD, hr, s1⟩
      have L1 := L.same s1
      have hi2 : i + 1 < t.mks.length := by rw [ok.lm]; omega
      have hd : i + 1 < A.ds.length := by rw [L.dl]; exact hi2
      have ei : (1 : Int) + (i : Nat) = ((i + 1 : Nat) : Int) := by omega
      rw [ei, ← hte, ← hg, ← htt]
      refine ⟨rfl, ?_⟩
      walk_at "rd"
      refine ⟨_, _, _, s1 _ _ hx, T.cl_Tree, T.n_Tree_mark_rows, _, rfl, _, rfl, _, L1.mr, _, atI_get (i := i + 1) (by rw [List.getElem?_map, List.getElem?_eq_getElem hd]; rfl), _, rfl, _, .inl (L1.ds (i + 1) _ _ (List.getElem?_eq_getElem hd) (List.getElem?_eq_getElem hi2)), ?_⟩
      have hnd := ok.vm _ (List.getElem_mem hi2)
      refine ⟨(t.mks[i + 1]).map fun n => ((n : Nat) : Int), by rw [mkv, List.map_map, List.map_map]; rfl, ?_, fun ys S perm pw nS l nl => ?_⟩
      · rw [List.length_map]
        have := nodup_lt hnd.1 hnd.2
        omega
      have eys := srt_int perm pw
      have ev : ys.map V.int = ni (srtN t.mks[i + 1]) := by
        rw [eys, List.map_map]
        rfl
      rw [ev] at nl ⊢
      have s2 := same_new (o := .lst (ni (srtN t.mks[i + 1]))) nS
      have s3 := same_new (o := .tup (ni (srtN t.mks[i + 1]))) nl
      have hl3 : (upd (upd H1 S (.lst (ni (srtN t.mks[i + 1])))) l (.tup (ni (srtN t.mks[i + 1])))) l = some (.tup (ni (srtN t.mks[i + 1]))) := upd_same
      have s13 := s2.trans s3
      generalize (upd (upd H1 S (.lst (ni (srtN t.mks[i + 1])))) l (.tup (ni (srtN t.mks[i + 1])))) = H3 at s13 hl3
      clear nl s2 s3 nS
      have L3 := L1.same s13
      have hx3 := s13 _ _ (s1 _ _ hx)
      refine ⟨_, _, _, hx3, T.cl_Tree, T.n_Tree_holders, _, rfl, _, rfl, _, L3.hol, _, ni_at (by rw [ok.lh]; omega), _, _, _, hx3, T.cl_Tree, T.n_Tree_besides, _, rfl, _, rfl, _, L3.bes, _, ni_at (by rw [ok.lb]; omega), _, _, _, hx3, T.cl_Tree, T.n_Tree_firsts, _, rfl, _, rfl, _, L3.fir, _, ni_at (by rw [ok.lf]; omega), ?_⟩
      refine ⟨by decide, ?_⟩
      have hD3 := s13 _ _ hD
      have hr3 : ∀ (j : Nat) (a : Addr), as[j]? = some a → RowAt H3 a (rowT t (j + 1)) := fun j a e => (hr j a e).same s13
      intro R nR
      generalize e_R : upd H3 R _ = H4
      have s4 := new_s nR e_R
      have hR := new_h e_R
      clear e_R
      have hD4 := s4 _ _ hD3
      have hR4 : RowAt H4 R (rowT t (i + 1)) := ⟨l, hR, by
        have := s4 _ _ hl3
        rw [show (rowT t (i + 1)).1 = srtN t.mks[i + 1] by rw [rowT, List.getD_eq_getElem?_getD, List.getElem?_eq_getElem hi2]; rfl]
        exact this⟩
      refine ⟨_, hD4, ?_, as ++ [R], ?_, ?_, fun j a e => ?_, Same.put ((s1.trans s13).trans s4) nD⟩
      · rw [List.length_map, la]
        have := ok.n60
        exact Nat.lt_of_lt_of_le (by omega : _ < 100) (by decide)
      · rw [List.length_append, la]
        rfl
      · rw [List.map_append]
        rfl
      · by_cases hj : j < as.length
        · rw [List.getElem?_append_left hj] at e
          exact ((hr3 j a e).same s4).put hD4
        · have hj2 := (List.getElem?_eq_some_iff.mp e).1
          rw [List.length_append, List.length_singleton] at hj2
          have ej : j = as.length := by omega
          rw [ej, List.getElem?_append_right (Nat.le_refl _), Nat.sub_self] at e
          cases e
          rw [ej, la]
          exact hR4.put hD4
    · rintro H1 ⟨as, la, hD, hr, s1⟩
      refine ⟨_, hD, fun l nl => q l _ (s1.trans (same_new nl)) (s1.free nl) ⟨as, upd_same, ?_, fun j a r e1 e2 => ?_⟩⟩
      · rw [la, rowsT, List.length_map, List.length_range']
      · have hj := (List.getElem?_eq_some_iff.mp e1).1
        rw [rowsT, List.getElem?_map, List.getElem?_eq_getElem (by rw [List.length_range']; omega), List.getElem_range'] at e2
        cases e2
        have := (hr j a e1).same (same_new (o := .tup (as.map V.ref)) nl)
        rw [show 1 + 1 * j = j + 1 by omega]
        exact this
end
section
variable {P : Program} {w : World} {K : PySem.W.Frag} {mg : Str → Option Value} {base : Heap}
theorem ok_Tree_MU_eqU {f0 : Addr} {fd : FuncData} (F : FunD K "__eq__" "Tree.__eq__" (defArgs s_Tree_MU_eqU) (defBody s_Tree_MU_eqU) (defScope s_Tree_MU_eqU) [] [] f0 fd) (M : Meth K (He.ga K "Tree") "__eq__" f0) (T : Tx P K mg) (C_Tree_M_told : CalM P w K mg base CX0 1 (He.ga K "Tree") "told" ["self"] (spTold K))  : CalM P w K mg base CX0 2 (He.ga K "Tree") "__eq__" ["self", "other"] (spEqT K) := by
  refine ⟨f0, fd, M, F.bindsN bn_Tree_MU_eqU, ok0 F sc_Tree_MU_eqU (fun vs H Q E h => ?_) (fun f cdv A outer s H vs Q E hr h => ?_)⟩
  · first | (obtain ⟨rfl, _⟩ := h; rfl) | (obtain ⟨_, rfl, _⟩ := h; rfl) | (obtain ⟨_, _, rfl, _⟩ := h; rfl) | (obtain ⟨_, _, _, rfl, _⟩ := h; rfl) | (obtain ⟨_, _, _, _, rfl, _⟩ := h; rfl) | (obtain ⟨_, _, _, _, _, rfl, _⟩ := h; rfl) | (obtain ⟨_, _, _, _, _, _, rfl, _⟩ := h; rfl) | (obtain ⟨_, _, _, _, _, _, _, rfl, _⟩ := h; rfl) | (obtain ⟨_, _, _, _, _, _, _, _, rfl, _⟩ := h; rfl) | (obtain ⟨_, _, _, _, _, _, _, _, _, rfl, _⟩ := h; rfl) | (obtain ⟨_, _, _, _, _, _, _, _, _, _, rfl, _⟩ := h; rfl) | (obtain ⟨_, _, _, _, _, _, _, _, _, _, _, rfl, _⟩ := h; rfl) | (obtain ⟨_, _, _, _, _, _, _, _, _, _, _, _, rfl, _⟩ := h; rfl)
  · skip
    obtain ⟨f_Tree_M_told, fd_Tree_M_told, m_Tree_M_told, b_Tree_M_told, G_Tree_M_told⟩ := C_Tree_M_told.ex
    refine ⟨_, (pss_cons (ps_if (pt_not (pt_val (Fx.pe_cB Fx.is_I T.b_isinstance (by decide +kernel) (Fx.pa_c (pv 1) (Fx.pa_c (pe_glob (v := .ref (He.ga K "Tree")) rfl T.g_Tree rfl) pa_nil))))) (pss_one (ps_ret pe_bl)) pss_nil)
        (pss_one (ps_ret (pe_cmpR (op_eqD hr.units) (pe_meth0 (pv 0) T.cl_Tree m_Tree_M_told G_Tree_M_told (hr.mono (by decide)) b_Tree_M_told .nil pass0) (pe_meth0 (pv 1) T.cl_Tree m_Tree_M_told G_Tree_M_told (hr.mono (by decide)) b_Tree_M_told .nil pass0) (nomark _))))), ?_⟩
    obtain ⟨x, y, A, B, t, u, rfl, L, M, ok, ok2, q⟩ := h
    obtain ⟨dx, hx⟩ := L.ins
    obtain ⟨dy, hy⟩ := M.ins
    refine seqI fun K1 k1 => ?_
    refine ifI fun A2 B2 ka kb => ?_
    walk_at "rd"
    have hI := insC_of T.cl_Tree T.i_Tree
    have kT : PySem.W.kitOne K (.ref (He.ga K "Tree")) (.ref (He.ga K "Tree")) = some true := hI.me
    refine ⟨_, _, _, hy, hI, _, rfl, _, kT, ?_⟩
    rw [if_neg (by decide)]
    refine kb _ (k1 _ _ ?_)
    clear ka kb k1
    walk_at "rd"
    refine ⟨_, _, hx, rfl, x, A, t, rfl, L, ok, fun p H1 s1 np td => ⟨_, _, s1 _ _ hy, rfl, y, B, u, rfl, M.same s1, ok2, fun p2 H2 s2 np2 td2 => ?_⟩⟩
    refine ⟨toldD (rowsT t), toldD (rowsT u), (td.same s2).dp, td2.dp, lay_told _, lay_told _, ?_⟩
    rw [eqv_told]
    exact q H2 (s1.trans s2)
end
section
variable {P : Program} {w : World} {K : PySem.W.Frag} {mg : Str → Option Value} {base : Heap}
theorem ok__law_bag (S : Src K mg "_law_bag" s__law_bag) (T : Tx P K mg)   : Cal P w K mg base CX0 1 "_law_bag" ["_law_script"] (spBag K) := by
  refine S.cal sc__law_bag bn__law_bag (fun vs H Q E h => ?_) (fun f cdv A outer s H vs Q E hr h => ?_)
  · first | (obtain ⟨rfl, _⟩ := h; rfl) | (obtain ⟨_, rfl, _⟩ := h; rfl) | (obtain ⟨_, _, rfl, _⟩ := h; rfl) | (obtain ⟨_, _, _, rfl, _⟩ := h; rfl) | (obtain ⟨_, _, _, _, rfl, _⟩ := h; rfl) | (obtain ⟨_, _, _, _, _, rfl, _⟩ := h; rfl) | (obtain ⟨_, _, _, _, _, _, rfl, _⟩ := h; rfl) | (obtain ⟨_, _, _, _, _, _, _, rfl, _⟩ := h; rfl) | (obtain ⟨_, _, _, _, _, _, _, _, rfl, _⟩ := h; rfl) | (obtain ⟨_, _, _, _, _, _, _, _, _, rfl, _⟩ := h; rfl) | (obtain ⟨_, _, _, _, _, _, _, _, _, _, rfl, _⟩ := h; rfl) | (obtain ⟨_, _, _, _, _, _, _, _, _, _, _, rfl, _⟩ := h; rfl) | (obtain ⟨_, _, _, _, _, _, _, _, _, _, _, _, rfl, _⟩ := h; rfl)
  · skip
    refine ⟨_, (pss_cons (ps_set (i := 1) sc__law_bag.nd rfl (Or.inl rfl) pe_int)
        (pss_cons (ps_for PassesOwn.never rfl (pi_list (pv 0)) (pg_name (i := 2) sc__law_bag.nd rfl (Or.inl rfl)) (pss_one (ps_set (i := 1) sc__law_bag.nd rfl (Or.inl rfl) (pe_op op_mod (Fx.pe_cTy Fx.int_I T.b_int (by decide +kernel) (Fx.pa_c (pe_op op_add (pe_op op_add (pe_op op_mul (pv 1) pe_int) (pv 2)) pe_int) pa_nil)) pe_int))))
        (pss_one (ps_ret (pe_disp (pps_cons pe_str (pe_lc (own := [("_law_cell", 2)]) rfl sc__law_bag.nd (pi_list (pv 0)) (blkOk_by (N := N__law_bag) (sc := defScope s__law_bag) (by decide +kernel)) (fun _ _ _ _ _ => (pg_name (i := 2) sc__law_bag.nd rfl (Or.inl rfl))) (fun _ _ _ _ _ => pts_nil) (fun _ _ _ _ _ => (pv 2))) (pps_cons pe_str pe_int (pps_cons pe_str pe_int (pps_cons pe_str (pv 1) (pps_cons pe_str pe_int pps_nil))))) (by rfl) (by rfl) (fun z => by cases z) (by decide)))))), ?_⟩
    obtain ⟨a, ns, rfl, hS, hlen, q⟩ := h
    refine seqI fun K1 k1 => ?_
    walk_at "rd"
    refine k1 _ _ ?_
    refine seqI fun K2 k2 => ?_
    refine ⟨_, rfl, a, rfl, ⟨_, hS⟩, for_list (K := K) (a := a) (xs := ns.map V.int) (fun i σ H' => ∃ (m : Int) (v : Option V), σ = [some (.ref a), some (.int m), v] ∧ H' = H) ⟨7, none, rfl, rfl⟩ (fun i σ H' _ ⟨_, _, _, e⟩ => by rw [e]; exact hS) ?_ ?_⟩
    · rintro i y σ H' hi ⟨m, v, rfl, rfl⟩
      obtain ⟨z, rfl⟩ : ∃ z, y = V.int z := by
        rw [List.getElem?_map] at hi
        cases e : ns[i]? with
        | none => rw [e] at hi; cases hi
        | some z => rw [e] at hi; exact ⟨z, (Option.some.inj hi).symm⟩
      walk_at "rd"
      exact ⟨.inr ⟨by decide, by decide⟩, by decide⟩
    · rintro σ H' ⟨m, v, rfl, rfl⟩
      refine k2 _ _ ?_
      intro p np
      refine ⟨.ref a, rfl, a, rfl, ⟨_, (same_new np).seq hS⟩, fun D hD => ?_⟩
      have hDp : D ≠ p := fun e => by rw [e, upd_same] at hD; cases hD
      refine lc_list (K := K) (a := a) (xs := ns.map V.int) (fun i H2 => H2 = upd (upd H' p (.dK [])) D (.lst ((ns.map V.int).take i))) rfl (fun i H2 _ e => ?_) ?_ ?_
      · rw [e]
        exact ((same_new np).trans (same_new hD)).seq hS
      · rintro i x H2 hx rfl
        refine ⟨rfl, ?_⟩
        walk_at "rd"
        refine ⟨?_, ?_⟩
        · rw [List.length_take]
          exact Nat.lt_of_le_of_lt (Nat.min_le_right _ _) (by rw [List.length_map]; exact Nat.lt_of_le_of_lt hlen (by decide))
        · rw [upd_upd, List.take_add_one, hx]
          rfl
      · rintro H2 rfl
        simp only [tPairs]
        walk_at "rd"
        have hpD : p ≠ D := fun e => hDp e.symm
        refine ⟨by rw [upd_ne hpD, upd_same], [(.inr "cells", .ref D), (.inr "at", .int 0), (.inr "rest", .int 0), (.inr "mixed", .int m), (.inr "count", .int 0)], rfl, (show 5 ≤ 15 by decide), ?_⟩
        refine q p _ (fun b o e => ?_) np ⟨D, ns, 0, 0, m, 0, upd_same, ?_, by decide⟩
        · rw [upd_ne (ne_of_none e np), upd_ne (ne_of_none (same_new np (o := .dK []) b o e) hD), upd_ne (ne_of_none e np)]
          exact e
        · rw [upd_ne hDp, upd_same, List.take_length]
end
section
variable {P : Program} {w : World} {K : PySem.W.Frag} {mg : Str → Option Value} {base : Heap}
theorem ok__law_pick (S : Src K mg "_law_pick" s__law_pick) (T : Tx P K mg)   : Cal P w K mg base CX0 1 "_law_pick" ["_law_bag_here", "_law_many"] spPick := by
  refine S.cal sc__law_pick bn__law_pick (fun vs H Q E h => ?_) (fun f cdv A outer s H vs Q E hr h => ?_)
  · first | (obtain ⟨rfl, _⟩ := h; rfl) | (obtain ⟨_, rfl, _⟩ := h; rfl) | (obtain ⟨_, _, rfl, _⟩ := h; rfl) | (obtain ⟨_, _, _, rfl, _⟩ := h; rfl) | (obtain ⟨_, _, _, _, rfl, _⟩ := h; rfl) | (obtain ⟨_, _, _, _, _, rfl, _⟩ := h; rfl) | (obtain ⟨_, _, _, _, _, _, rfl, _⟩ := h; rfl) | (obtain ⟨_, _, _, _, _, _, _, rfl, _⟩ := h; rfl) | (obtain ⟨_, _, _, _, _, _, _, _, rfl, _⟩ := h; rfl) | (obtain ⟨_, _, _, _, _, _, _, _, _, rfl, _⟩ := h; rfl) | (obtain ⟨_, _, _, _, _, _, _, _, _, _, rfl, _⟩ := h; rfl) | (obtain ⟨_, _, _, _, _, _, _, _, _, _, _, rfl, _⟩ := h; rfl) | (obtain ⟨_, _, _, _, _, _, _, _, _, _, _, _, rfl, _⟩ := h; rfl)
  · skip
    refine ⟨_, (pss_cons (ps_dput (hu_of hr) (pv 0) pe_str (pe_op op_add (pe_dget (hu_of hr) (pv 0) pe_str (fun _ _ => rfl)) pe_int) rfl)
        (pss_cons (ps_if (pt_cmpR op_gt (pe_dget (hu_of hr) (pv 0) pe_str (fun _ _ => rfl)) pe_int (nomark _)) (pss_cons (ps_set (i := 2) sc__law_pick.nd rfl (Or.inl rfl) (pe_dget (hu_of hr) (pv 0) pe_str (fun _ _ => rfl)))
        (pss_cons (ps_dput (hu_of hr) (pv 0) pe_str (pe_op op_fdiv (pv 2) (pv 1)) rfl)
        (pss_one (ps_ret (pe_op op_mod (Fx.pe_cTy Fx.int_I T.b_int (by decide +kernel) (Fx.pa_c (pv 2) pa_nil)) (pv 1)))))) pss_nil)
        (pss_cons (ps_set (i := 3) sc__law_pick.nd rfl (Or.inl rfl) pe_int)
        (pss_cons (ps_if (pt_cmpR op_lt (pe_dget (hu_of hr) (pv 0) pe_str (fun _ _ => rfl)) (Fx.pe_cB Fx.len_L T.b_len (by decide +kernel) (Fx.pa_c (pe_dget (hu_of hr) (pv 0) pe_str (fun _ _ => rfl)) pa_nil)) (nomark _)) (pss_cons (ps_set (i := 3) sc__law_pick.nd rfl (Or.inl rfl) (pe_ix Fx.ix_L (pe_dget (hu_of hr) (pv 0) pe_str (fun _ _ => rfl)) (pe_dget (hu_of hr) (pv 0) pe_str (fun _ _ => rfl)) (fun _ _ => rfl)))
        (pss_cons (ps_dput (hu_of hr) (pv 0) pe_str (pe_op op_add (pe_dget (hu_of hr) (pv 0) pe_str (fun _ _ => rfl)) pe_int) rfl)
        (pss_one (ps_if (pt_cmpR op_ge (pv 3) (pe_op op_pow pe_int pe_int) (nomark _)) (pss_cons (ps_dput (hu_of hr) (pv 0) pe_str (pe_op op_fdiv (pv 3) (pv 1)) rfl)
        (pss_one (ps_ret (pe_op op_mod (Fx.pe_cTy Fx.int_I T.b_int (by decide +kernel) (Fx.pa_c (pv 3) pa_nil)) (pv 1))))) pss_nil)))) pss_nil)
        (pss_cons (ps_set (i := 2) sc__law_pick.nd rfl (Or.inl rfl) (pe_op op_mod (Fx.pe_cTy Fx.int_I T.b_int (by decide +kernel) (Fx.pa_c (pe_op op_add (pe_op op_add (pe_op op_mul (pv 3) pe_int) (pe_op op_mul (pe_dget (hu_of hr) (pv 0) pe_str (fun _ _ => rfl)) pe_int)) (pe_op op_mul (pe_dget (hu_of hr) (pv 0) pe_str (fun _ _ => rfl)) pe_int)) pa_nil)) pe_int))
        (pss_cons (ps_set (i := 2) sc__law_pick.nd rfl (Or.inl rfl) (pe_op op_mod (Fx.pe_cTy Fx.int_I T.b_int (by decide +kernel) (Fx.pa_c (pe_op op_add (pe_op op_mul (pv 2) pe_int) pe_int) pa_nil)) pe_int))
        (pss_cons (ps_dput (hu_of hr) (pv 0) pe_str (pe_op op_mod (Fx.pe_cTy Fx.int_I T.b_int (by decide +kernel) (Fx.pa_c (pv 2) pa_nil)) pe_int) rfl)
        (pss_one (ps_ret (pe_op op_mod (Fx.pe_cTy Fx.int_I T.b_int (by decide +kernel) (Fx.pa_c (pe_op op_fdiv (pv 2) pe_int) pa_nil)) (pv 1))))))))))), ?_⟩
    obtain ⟨b, many, rfl, ⟨c, ns, a, r, m, n, hb, hc, ha⟩, h0, h1, q⟩ := h
    have hcb : c ≠ b := ne_of hc hb (by intro z; cases z)
    have hu : ∀ o, upd H b o c = some (.lst (ns.map V.int)) := fun o => by rw [upd_ne hcb]; exact hc
    walk_at "rd"
    simp only [dget_s hb, dput_s hb bag_len, dget_su, dput_su bag_len, bag_cells, bag_at, bag_rest, bag_mixed, bag_count, bag_atP, bag_restP, bag_mixedP, bag_countP, Option.some.injEq, exists_eq_left, exists_eq_left', V.int.injEq, V.ref.injEq, HO.lst.injEq, hu]
    have fin : ∀ (x y z u : Int) (n : Int), 0 ≤ n → n < many → 0 ≤ x → Q (.int n) (upd H b (.dK (bagKV c x y z u))) := fun x y z u n g1 g2 g3 =>
      q n _ g1 g2 ⟨fun p o hp e => by rw [upd_ne hp]; exact e, ⟨c, ns, x, y, z, u, upd_same, hu _, g3⟩, fun c' ⟨ns', x', y', z', u', e1, e2, e3⟩ => by
        rw [hb] at e1
        have ec : c = c' := by
          simp only [Option.some.injEq, HO.dK.injEq, bagKV, List.cons.injEq, Prod.mk.injEq, V.ref.injEq, true_and] at e1
          exact e1.1
        subst ec
        exact ⟨ns, x, y, z, u, upd_same, hu _, g3⟩⟩
    have mm : ∀ x : Int, 0 ≤ x % many ∧ x % many < many := fun x => ⟨Int.emod_nonneg _ (by omega), Int.emod_lt_of_pos _ h0⟩
    refine ite_i (fun hr => ⟨⟨h0, h1⟩, h0, fin _ _ _ _ _ (mm _).1 (mm _).2 ha⟩) (fun hr => ?_)
    refine ite_i (fun hl => ?_) (fun hl => ?_)
    · obtain ⟨x, ex⟩ := atI_ok ha hl
      refine ⟨.int x, ex, ?_⟩
      simp only [V.int.injEq, exists_eq_left', exists_eq_left]
      refine ⟨⟨by decide, by decide, by decide⟩, ite_i (fun hx => ⟨⟨h0, h1⟩, h0, fin _ _ _ _ _ (mm _).1 (mm _).2 (by omega)⟩) (fun hx => ?_)⟩
      exact ⟨.inr ⟨by decide, by decide⟩, .inr ⟨by decide, by decide⟩, .inr ⟨by decide, by decide⟩, by decide, .inr ⟨by decide, by decide⟩, by decide, by decide, ⟨by decide, by decide⟩, h0, fin _ _ _ _ _ (mm _).1 (mm _).2 (by omega)⟩
    · exact ⟨.inr ⟨by decide, by decide⟩, .inr ⟨by decide, by decide⟩, .inr ⟨by decide, by decide⟩, by decide, .inr ⟨by decide, by decide⟩, by decide, by decide, ⟨by decide, by decide⟩, h0, fin _ _ _ _ _ (mm _).1 (mm _).2 ha⟩
end
section
variable {P : Program} {w : World} {K : PySem.W.Frag} {mg : Str → Option Value} {base : Heap}
theorem ok__law_choice (S : Src K mg "_law_choice" s__law_choice) (T : Tx P K mg) (C__law_pick : Cal P w K mg base CX0 1 "_law_pick" ["_law_bag_here", "_law_many"] spPick)  : Cal P w K mg base CX0 2 "_law_choice" ["_law_bag_here", "_law_things"] spChoiceL := by
  refine S.cal sc__law_choice bn__law_choice (fun vs H Q E h => ?_) (fun f cdv A outer s H vs Q E hr h => ?_)
  · first | (obtain ⟨rfl, _⟩ := h; rfl) | (obtain ⟨_, rfl, _⟩ := h; rfl) | (obtain ⟨_, _, rfl, _⟩ := h; rfl) | (obtain ⟨_, _, _, rfl, _⟩ := h; rfl) | (obtain ⟨_, _, _, _, rfl, _⟩ := h; rfl) | (obtain ⟨_, _, _, _, _, rfl, _⟩ := h; rfl) | (obtain ⟨_, _, _, _, _, _, rfl, _⟩ := h; rfl) | (obtain ⟨_, _, _, _, _, _, _, rfl, _⟩ := h; rfl) | (obtain ⟨_, _, _, _, _, _, _, _, rfl, _⟩ := h; rfl) | (obtain ⟨_, _, _, _, _, _, _, _, _, rfl, _⟩ := h; rfl) | (obtain ⟨_, _, _, _, _, _, _, _, _, _, rfl, _⟩ := h; rfl) | (obtain ⟨_, _, _, _, _, _, _, _, _, _, _, rfl, _⟩ := h; rfl) | (obtain ⟨_, _, _, _, _, _, _, _, _, _, _, _, rfl, _⟩ := h; rfl)
  · skip
    refine ⟨_, (pss_one (ps_ret (pe_ix Fx.ix_L (pv 1) (Fx.pe_cal C__law_pick (hr.mono (by decide)) pass0 (Fx.pa_c (pv 0) (Fx.pa_c (Fx.pe_cB Fx.len_L T.b_len (by decide +kernel) (Fx.pa_c (pv 1) pa_nil)) pa_nil))) (fun _ _ => rfl)))), ?_⟩
    obtain ⟨b, p, xs, rfl, hB, hp, h0, h1, q⟩ := h
    walk_at "rd"
    simp only [hp, Option.some.injEq, HO.lst.injEq, exists_eq_left']
    refine ⟨b, _, rfl, hB, by omega, by omega, fun n H' n0 n1 kp => ?_⟩
    obtain ⟨v, hv, hm⟩ := atI_mem n0 n1
    exact ⟨n, rfl, _, kp.lst hB hp, v, hv, q v H' hm kp⟩
end
section
variable {P : Program} {w : World} {K : PySem.W.Frag} {mg : Str → Option Value} {base : Heap}
theorem ok__law_one_in (S : Src K mg "_law_one_in" s__law_one_in) (T : Tx P K mg) (C__law_pick : Cal P w K mg base CX0 1 "_law_pick" ["_law_bag_here", "_law_many"] spPick)  : Cal P w K mg base CX0 2 "_law_one_in" ["_law_bag_here", "_law_many"] spOneIn := by
  refine S.cal sc__law_one_in bn__law_one_in (fun vs H Q E h => ?_) (fun f cdv A outer s H vs Q E hr h => ?_)
  · first | (obtain ⟨rfl, _⟩ := h; rfl) | (obtain ⟨_, rfl, _⟩ := h; rfl) | (obtain ⟨_, _, rfl, _⟩ := h; rfl) | (obtain ⟨_, _, _, rfl, _⟩ := h; rfl) | (obtain ⟨_, _, _, _, rfl, _⟩ := h; rfl) | (obtain ⟨_, _, _, _, _, rfl, _⟩ := h; rfl) | (obtain ⟨_, _, _, _, _, _, rfl, _⟩ := h; rfl) | (obtain ⟨_, _, _, _, _, _, _, rfl, _⟩ := h; rfl) | (obtain ⟨_, _, _, _, _, _, _, _, rfl, _⟩ := h; rfl) | (obtain ⟨_, _, _, _, _, _, _, _, _, rfl, _⟩ := h; rfl) | (obtain ⟨_, _, _, _, _, _, _, _, _, _, rfl, _⟩ := h; rfl) | (obtain ⟨_, _, _, _, _, _, _, _, _, _, _, rfl, _⟩ := h; rfl) | (obtain ⟨_, _, _, _, _, _, _, _, _, _, _, _, rfl, _⟩ := h; rfl)
  · skip
    refine ⟨_, (pss_one (ps_ret (pe_cmpR op_eq (Fx.pe_cal C__law_pick (hr.mono (by decide)) pass0 (Fx.pa_c (pv 0) (Fx.pa_c (pv 1) pa_nil))) pe_int (nomark _)))), ?_⟩
    obtain ⟨b, m, rfl, hB, h0, h1, q⟩ := h
    walk_at "rd"
    refine ⟨b, m, rfl, hB, h0, h1, fun n H' n0 n1 kp => ?_⟩
    walk_at "rd"
    exact q _ H' kp
end
section
variable {P : Program} {w : World} {K : PySem.W.Frag} {mg : Str → Option Value} {base : Heap}
theorem ok__law_shuffled (S : Src K mg "_law_shuffled" s__law_shuffled) (T : Tx P K mg) (C__law_pick : Cal P w K mg base CX0 1 "_law_pick" ["_law_bag_here", "_law_many"] spPick)  : Cal P w K mg base CX0 2 "_law_shuffled" ["_law_bag_here", "_law_things"] spShuf := by
  refine S.cal sc__law_shuffled bn__law_shuffled (fun vs H Q E h => ?_) (fun f cdv A outer s H vs Q E hr h => ?_)
  · first | (obtain ⟨rfl, _⟩ := h; rfl) | (obtain ⟨_, rfl, _⟩ := h; rfl) | (obtain ⟨_, _, rfl, _⟩ := h; rfl) | (obtain ⟨_, _, _, rfl, _⟩ := h; rfl) | (obtain ⟨_, _, _, _, rfl, _⟩ := h; rfl) | (obtain ⟨_, _, _, _, _, rfl, _⟩ := h; rfl) | (obtain ⟨_, _, _, _, _, _, rfl, _⟩ := h; rfl) | (obtain ⟨_, _, _, _, _, _, _, rfl, _⟩ := h; rfl) | (obtain ⟨_, _, _, _, _, _, _, _, rfl, _⟩ := h; rfl) | (obtain ⟨_, _, _, _, _, _, _, _, _, rfl, _⟩ := h; rfl) | (obtain ⟨_, _, _, _, _, _, _, _, _, _, rfl, _⟩ := h; rfl) | (obtain ⟨_, _, _, _, _, _, _, _, _, _, _, rfl, _⟩ := h; rfl) | (obtain ⟨_, _, _, _, _, _, _, _, _, _, _, _, rfl, _⟩ := h; rfl)
  · skip
    refine ⟨_, (pss_cons (ps_set (i := 2) sc__law_shuffled.nd rfl (Or.inl rfl) (Fx.pe_cTy Fx.list_L T.b_list (by decide +kernel) (Fx.pa_c (pv 1) pa_nil)))
        (pss_cons (ps_set (i := 3) sc__law_shuffled.nd rfl (Or.inl rfl) (pe_lst pa_nil))
        (pss_cons (ps_for PassesOwn.never rfl (pi_range1 rfl T.b_range (Fx.pa_c (Fx.pe_cB Fx.len_L T.b_len (by decide +kernel) (Fx.pa_c (pv 1) pa_nil)) pa_nil)) (pg_name (i := 4) sc__law_shuffled.nd rfl (Or.inl rfl)) (pss_one (ps_expr (pe_bm PySem.F.plainAttrs_list PySem.F.slot_list_append PySem.F.type_list_append mt_append (pv 3) (Fx.pa_c (pe_bm PySem.F.plainAttrs_list PySem.F.slot_list_pop PySem.F.type_list_pop mt_popAt (pv 2) (Fx.pa_c (Fx.pe_cal C__law_pick (hr.mono (by decide)) pass0 (Fx.pa_c (pv 0) (Fx.pa_c (Fx.pe_cB Fx.len_L T.b_len (by decide +kernel) (Fx.pa_c (pv 2) pa_nil)) pa_nil))) pa_nil)) pa_nil)))))
        (pss_one (ps_ret (pv 3)))))), ?_⟩
    obtain ⟨b, p, xs, rfl, hB, hp, hl, q⟩ := h
    refine seqI fun K1 k1 => ?_
    walk_at "rd"
    refine ⟨_, hp, fun qr nr => k1 _ _ ?_⟩
    clear k1
    have s1 := same_new (o := .lst xs) nr
    have hr1 : (upd H qr (.lst xs)) qr = some (.lst xs) := upd_same
    generalize upd H qr (.lst xs) = H1 at s1 hr1
    refine seqI fun K1 k1 => ?_
    walk_at "rd"
    refine ⟨by decide, fun qw nw => k1 _ _ ?_⟩
    clear k1
    have s2 := s1.trans (same_new (o := .lst []) nw)
    have hr2 := same_new (o := .lst []) nw _ _ hr1
    have hw2 : (upd H1 qw (.lst [])) qw = some (.lst []) := upd_same
    have nw0 := s1.free nw
    have ne : qr ≠ qw := fun e => by rw [e, nw] at hr1; cases hr1
    generalize upd H1 qw (.lst []) = H2 at s2 hr2 hw2
    refine seqI fun K0 k0 => ?_
    refine ⟨_, rfl, p, _, rfl, s2 _ _ hp, _, rfl, by omega, by omega, ?_⟩
    rw [Int.toNat_natCast]
    refine for_range (lo := 0) (n := xs.length) (fun i σ H' => ∃ (v : Option V) (r w : List V), σ = [some (.ref b), some (.ref p), some (.ref qr), some (.ref qw), v] ∧ H' qr = some (.lst r) ∧ H' qw = some (.lst w) ∧ (w ++ r).Perm xs ∧ w.length = i ∧ Kp b H H') ⟨none, xs, [], rfl, hr2, hw2, .refl _, rfl, Kp.same hB s2⟩ ?_ ?_
    · rintro i σ H' hi ⟨v, r, w, rfl, hr, hw, pm, lw, kp⟩
      have B1 := kp.bag
      have el := pm.length_eq
      rw [List.length_append, lw] at el
      walk_at "rd"
      refine ⟨tyL hw, tyL hr, _, hr, b, _, rfl, B1, by omega, by omega, fun m H3 m0 m1 kp3 => ?_⟩
      obtain ⟨m, rfl⟩ := ni_nat m0
      have hm : m < r.length := by omega
      have hr3 := kp3.lst B1 hr
      have hw3 := kp3.lst B1 hw
      have ew : (upd H3 qr (.lst (r.eraseIdx m))) qw = some (.lst w) := by
        rw [upd_ne (Ne.symm ne)]
        exact hw3
      refine ⟨_, _, rfl, hr3, by omega, by omega, m, seqIx hm, _, List.getElem?_eq_getElem hm, _, ew, Nat.lt_of_le_of_lt (by omega : _ ≤ 1000) (by decide), r.eraseIdx m, ?_, ?_, ?_, ?_⟩
      · rw [upd_ne ne, upd_same]
      · rw [List.append_assoc]
        refine List.Perm.trans (List.Perm.append_left w ?_) pm
        exact eidx_perm hm
      · rw [List.length_append, lw]
        rfl
      · exact Kp.put hB (Kp.put hB (kp.trans kp3) nr) nw0
    rintro σ H' ⟨v, r, w, rfl, hr, hw, pm, lw, kp⟩
    refine k0 _ _ ?_
    walk_at "rd"
    have el := pm.length_eq
    rw [List.length_append, lw] at el
    have er : r = [] := List.length_eq_zero_iff.mp (by omega)
    rw [er, List.append_nil] at pm
    exact q qw w H' pm kp nw0 hw
end
section
variable {P : Program} {w : World} {K : PySem.W.Frag} {mg : Str → Option Value} {base : Heap}
theorem ok__law_integer (S : Src K mg "_law_integer" s__law_integer) (T : Tx P K mg)   : Cal P w K mg base CX0 1 "_law_integer" ["_law_thing"] spIntegerG := by
  refine S.cal sc__law_integer bn__law_integer (fun vs H Q E h => ?_) (fun f cdv A outer s H vs Q E hr h => ?_)
  · first | (obtain ⟨rfl, _⟩ := h; rfl) | (obtain ⟨_, rfl, _⟩ := h; rfl) | (obtain ⟨_, _, rfl, _⟩ := h; rfl) | (obtain ⟨_, _, _, rfl, _⟩ := h; rfl) | (obtain ⟨_, _, _, _, rfl, _⟩ := h; rfl) | (obtain ⟨_, _, _, _, _, rfl, _⟩ := h; rfl) | (obtain ⟨_, _, _, _, _, _, rfl, _⟩ := h; rfl) | (obtain ⟨_, _, _, _, _, _, _, rfl, _⟩ := h; rfl) | (obtain ⟨_, _, _, _, _, _, _, _, rfl, _⟩ := h; rfl) | (obtain ⟨_, _, _, _, _, _, _, _, _, rfl, _⟩ := h; rfl) | (obtain ⟨_, _, _, _, _, _, _, _, _, _, rfl, _⟩ := h; rfl) | (obtain ⟨_, _, _, _, _, _, _, _, _, _, _, rfl, _⟩ := h; rfl) | (obtain ⟨_, _, _, _, _, _, _, _, _, _, _, _, rfl, _⟩ := h; rfl)
  · skip
    refine ⟨_, (pss_one (ps_ret (pe_and (Fx.pe_cB Fx.is_B T.b_isinstance (by decide +kernel) (Fx.pa_c (pv 0) (Fx.pa_c (pe_bltn (v := .ty "int") (by rfl) T.b_int (by decide +kernel) rfl) pa_nil))) (pe_one (pe_not (Fx.pe_cB Fx.is_B T.b_isinstance (by decide +kernel) (Fx.pa_c (pv 0) (Fx.pa_c (pe_bltn (v := .ty "bool") (by rfl) T.b_bool (by decide +kernel) rfl) pa_nil)))))))), ?_⟩
    obtain ⟨v, d, rfl, hv, q⟩ := h
    obtain ⟨t, ht, h⟩ := hv.tyi
    walk_at "rd"
    refine ⟨t, ht, ?_⟩
    rcases h with ⟨e, h1, h2⟩ | ⟨e, h1 | ⟨h1, h2⟩⟩
    · refine ⟨_, h1, ?_⟩
      rw [if_pos rfl]
      rw [e] at q
      exact ⟨t, ht, _, h2, q⟩
    · refine ⟨_, h1, ?_⟩
      rw [if_neg (by decide)]
      rw [e] at q
      exact q
    · refine ⟨_, h1, ?_⟩
      rw [if_pos rfl]
      rw [e] at q
      exact ⟨t, ht, _, h2, q⟩
end
section
variable {P : Program} {w : World} {K : PySem.W.Frag} {mg : Str → Option Value} {base : Heap}
theorem ok__law_holders (S : Src K mg "_law_holders" s__law_holders) (T : Tx P K mg) (C__law_shuffled : Cal P w K mg base CX0 2 "_law_shuffled" ["_law_bag_here", "_law_things"] spShuf) (C__law_one_in : Cal P w K mg base CX0 2 "_law_one_in" ["_law_bag_here", "_law_many"] spOneIn) (C__law_pick : Cal P w K mg base CX0 1 "_law_pick" ["_law_bag_here", "_law_many"] spPick)  : Cal P w K mg base CX0 3 "_law_holders" ["_law_bag_here", "_law_many"] spHolders := by
  refine S.cal sc__law_holders bn__law_holders (fun vs H Q E h => ?_) (fun f cdv A outer s H vs Q E hr h => ?_)
  · first | (obtain ⟨rfl, _⟩ := h; rfl) | (obtain ⟨_, rfl, _⟩ := h; rfl) | (obtain ⟨_, _, rfl, _⟩ := h; rfl) | (obtain ⟨_, _, _, rfl, _⟩ := h; rfl) | (obtain ⟨_, _, _, _, rfl, _⟩ := h; rfl) | (obtain ⟨_, _, _, _, _, rfl, _⟩ := h; rfl) | (obtain ⟨_, _, _, _, _, _, rfl, _⟩ := h; rfl) | (obtain ⟨_, _, _, _, _, _, _, rfl, _⟩ := h; rfl) | (obtain ⟨_, _, _, _, _, _, _, _, rfl, _⟩ := h; rfl) | (obtain ⟨_, _, _, _, _, _, _, _, _, rfl, _⟩ := h; rfl) | (obtain ⟨_, _, _, _, _, _, _, _, _, _, rfl, _⟩ := h; rfl) | (obtain ⟨_, _, _, _, _, _, _, _, _, _, _, rfl, _⟩ := h; rfl) | (obtain ⟨_, _, _, _, _, _, _, _, _, _, _, _, rfl, _⟩ := h; rfl)
  · skip
    refine ⟨_, (pss_cons (ps_set (i := 2) sc__law_holders.nd rfl (Or.inl rfl) (Fx.pe_cal C__law_shuffled (hr.mono (by decide)) pass0 (Fx.pa_c (pv 0) (Fx.pa_c (pe_listRg rfl rfl T.b_list (prg_2 rfl T.b_range pe_int (pe_op op_add (pv 1) pe_int))) pa_nil))))
        (pss_cons (ps_set (i := 3) sc__law_holders.nd rfl (Or.inl rfl) (Fx.pe_cal C__law_one_in (hr.mono (by decide)) pass0 (Fx.pa_c (pv 0) (Fx.pa_c pe_int pa_nil))))
        (pss_cons (ps_set (i := 4) sc__law_holders.nd rfl (Or.inl rfl) (pe_op op_rep (pe_lst (Fx.pa_c pe_int pa_nil)) (pe_op op_add (pv 1) pe_int)))
        (pss_cons (ps_for PassesOwn.never rfl (pi_range2 rfl T.b_range (Fx.pa_c pe_int (Fx.pa_c (pv 1) pa_nil))) (pg_name (i := 5) sc__law_holders.nd rfl (Or.inl rfl)) (pss_one (ps_if (pt_val (pv 3)) (pss_one (ps_asg (pe_ix Fx.ix_L (pv 2) (pe_op op_sub (pv 5) pe_int) (fun _ _ => rfl)) (pg_sub (pv 4) (pe_ix Fx.ix_L (pv 2) (pv 5) (fun _ _ => rfl)) set_list))) (pss_one (ps_if (pt_cmpR op_gt (Fx.pe_cal C__law_pick (hr.mono (by decide)) pass0 (Fx.pa_c (pv 0) (Fx.pa_c pe_int pa_nil))) pe_int (nomark _)) (pss_one (ps_asg (pe_ix Fx.ix_L (pv 2) (Fx.pe_cal C__law_pick (hr.mono (by decide)) pass0 (Fx.pa_c (pv 0) (Fx.pa_c (pv 5) pa_nil))) (fun _ _ => rfl)) (pg_sub (pv 4) (pe_ix Fx.ix_L (pv 2) (pv 5) (fun _ _ => rfl)) set_list))) pss_nil)))))
        (pss_one (ps_ret (pv 4))))))), ?_⟩
    obtain ⟨b, n, rfl, hB, n1, n60, q⟩ := h
    refine seqI fun K1 k1 => ?_
    walk_at "rd"
    refine ⟨⟨by decide, by decide, by omega, by omega, by omega⟩, fun q0 n0 => ?_⟩
    rw [rg_ni]
    have s0 := same_new (o := .lst (ni (List.range' 1 n))) n0
    have B0 := hB.same s0
    refine ⟨b, q0, _, rfl, B0, upd_same, by simp; omega, fun po ys H1 pm0 kp1 np1 ho => k1 _ _ ?_⟩
    clear k1
    obtain ⟨order, rfl, pm⟩ := perm_ni pm0
    clear pm0
    have kp1 := (Kp.same hB s0).trans kp1
    have B1 := kp1.bag
    clear B0 s0
    refine seqI fun K1 k1 => ?_
    walk_at "rd"
    refine ⟨b, _, rfl, B1, by decide, by decide, fun ch H2 kp2 => k1 _ _ ?_⟩
    clear k1
    have ho2 := kp2.lst B1 ho
    have kp2 := kp1.trans kp2
    have B2 := kp2.bag
    refine seqI fun K1 k1 => ?_
    walk_at "rd"
    refine ⟨by decide, fun l0 nl0 => ⟨by omega, by omega, ?_, fun qh nqh => k1 _ _ ?_⟩⟩
    · exact Nat.le_trans (by omega : _ ≤ 100) (by decide)
    clear k1
    rw [rep_flat]
    refine seqI fun K0 k0 => ?_
    have s3 := same_new (o := .lst [.int 0]) nl0
    have s4 := s3.trans (same_new (o := .lst (ni (List.replicate (n + 1) 0))) nqh)
    have hh4 : (upd (upd H2 l0 (.lst [.int 0])) qh (.lst (ni (List.replicate (n + 1) 0)))) qh = some (.lst (ni (List.replicate (n + 1) 0))) := upd_same
    have nqh0 := kp2.free (s3.free nqh)
    generalize upd (upd H2 l0 (.lst [.int 0])) qh (.lst (ni (List.replicate (n + 1) 0))) = H4 at s4 hh4
    have ho4 := s4 _ _ ho2
    have kp4 := kp2.trans (Kp.same B2 s4)
    have neo : po ≠ qh := fun e => by
      rw [← e] at nqh
      rw [s3 _ _ ho2] at nqh
      cases nqh
    clear kp2 s4 s3 nqh nl0 ho2 B2 ho B1
    have lo : order.length = n := by rw [pm.length_eq, List.length_range']
    have memo : ∀ t, t ∈ order ↔ 1 ≤ t ∧ t ≤ n := fun t => by
      rw [pm.mem_iff, List.mem_range'_1]
      omega
    have ndo : order.Nodup := pm.nodup_iff.mpr (List.nodup_range' ..)
    refine forI fun R0 hR => ?_
    walk_at "rd"
    refine ⟨by decide, by decide, by omega, by omega, hR _ _ ?_⟩
    clear hR
    rw [show ((n : Int) - 1).toNat = n - 1 by omega]
    have done_ : ∀ (hol : List Nat) (H' : Hp) (v5 : Option V), hol.length = n + 1 → hol.getD 0 0 = 0 → (∀ v ∈ hol, v ≤ n) → (∀ t, hol.getD t 0 = 0 ∨ ∃ i j : Nat, i < j ∧ order[i]? = some (hol.getD t 0) ∧ order[j]? = some t) → H' qh = some (.lst (ni hol)) → Kp b H H' → K0 [some (.ref b), some (.int (n : Nat)), some (.ref po), some (.bl ch), some (.ref qh), v5] H' := by
      intro hol H' v5 lh h0 vh hr hh kp
      refine k0 _ _ ?_
      walk_at "rd"
      exact q qh hol H' kp nqh0 hh ⟨lh, h0, vh, rank_order lh vh ndo memo hr⟩
    clear k0
    refine for_range (lo := 1) (n := n - 1) (fun i σ H' => ∃ (v5 : Option V) (hol : List Nat), σ = [some (.ref b), some (.int (n : Nat)), some (.ref po), some (.bl ch), some (.ref qh), v5] ∧ hol.length = n + 1 ∧ hol.getD 0 0 = 0 ∧ (∀ v ∈ hol, v ≤ n) ∧ (∀ t, hol.getD t 0 = 0 ∨ ∃ i j : Nat, i < j ∧ order[i]? = some (hol.getD t 0) ∧ order[j]? = some t) ∧ H' qh = some (.lst (ni hol)) ∧ H' po = some (.lst (ni order)) ∧ Kp b H H') ⟨none, _, rfl, List.length_replicate, rep_getD _ _, fun v hv => by rw [(List.mem_replicate.mp hv).2]; exact Nat.zero_le _, fun t => .inl (rep_getD _ _), hh4, ho4, kp4⟩ ?_ ?_
    · rintro i σ H' hi ⟨v5, hol, rfl, lh, h0, vh, hr, hh, ho, kp⟩
      have B1 := kp.bag
      have e1 : (1 : Int) + (i : Nat) = ((i + 1 : Nat) : Int) := by omega
      rw [e1]
      have oi : order[i + 1]? = some (order.getD (i + 1) 0) := by rw [List.getD_eq_getElem?_getD, List.getElem?_eq_getElem (by omega)]; rfl
      have om := (memo _).mp (List.mem_of_getElem? oi)
      -- what a store makes
      have put : ∀ (k : Nat) (H2 : Hp), k < i + 1 → Kp b H H2 → H2 po = some (.lst (ni order)) → (hol.set (order.getD (i + 1) 0) (order.getD k 0)).length = n + 1 ∧ (hol.set (order.getD (i + 1) 0) (order.getD k 0)).getD 0 0 = 0 ∧ (∀ v ∈ hol.set (order.getD (i + 1) 0) (order.getD k 0), v ≤ n) ∧ (∀ t, (hol.set (order.getD (i + 1) 0) (order.getD k 0)).getD t 0 = 0 ∨ ∃ i_1 j : Nat, i_1 < j ∧ order[i_1]? = some ((hol.set (order.getD (i + 1) 0) (order.getD k 0)).getD t 0) ∧ order[j]? = some t) ∧ (upd H2 qh (.lst (ni (hol.set (order.getD (i + 1) 0) (order.getD k 0))))) po = some (.lst (ni order)) ∧ Kp b H (upd H2 qh (.lst (ni (hol.set (order.getD (i + 1) 0) (order.getD k 0))))) := by
        intro k H2 hk kp2 ho2
        have ok : order[k]? = some (order.getD k 0) := by rw [List.getD_eq_getElem?_getD, List.getElem?_eq_getElem (by omega)]; rfl
        have okm := (memo _).mp (List.mem_of_getElem? ok)
        refine ⟨(List.length_set ..).trans lh, ?_, fun v hv => (List.mem_or_eq_of_mem_set hv).elim (vh v) fun e => by omega, fun t => ?_, by rw [upd_ne neo]; exact ho2, Kp.put hB kp2 nqh0⟩
        · rw [getD_set, if_neg (fun z => by omega)]
          exact h0
        · rw [getD_set]
          by_cases e : order.getD (i + 1) 0 = t
          · subst e
            rw [if_pos ⟨rfl, by omega⟩]
            exact .inr ⟨k, i + 1, hk, ok, oi⟩
          · rw [if_neg (fun z => e z.1)]
            exact hr t
      refine ifI fun A2 B2 ka kb => ?_
      walk_at "rd"
      cases ch with
      | true =>
        rw [if_pos rfl]
        refine ka _ ?_
        clear ka kb
        walk_at "rd"
        have e2 : ((i + 1 : Nat) : Int) - 1 = (i : Nat) := by omega
        rw [e2]
        refine ⟨_, ho, _, ni_at (by omega), _, ho, _, ni_at (by omega), _, _, rfl, hh, order.getD (i + 1) 0, ix_ni (by omega), ?_⟩
        rw [ni_set]
        obtain ⟨p1, p2, p3, p4, p5, p6⟩ := put i H' (by omega) kp ho
        exact ⟨_, p1, p2, p3, p4, rfl, p5, p6⟩
      | false =>
        rw [if_neg (by decide)]
        refine kb _ ?_
        clear ka kb
        refine ifI fun A2 B2 ka kb => ?_
        walk_at "rd"
        refine ⟨b, 3, rfl, B1, by decide, by decide, fun m H2 m0 m1 kp2 => ?_⟩
        walk_at "rd"
        have hh2 := kp2.lst B1 hh
        have ho2 := kp2.lst B1 ho
        have kpH := kp.trans kp2
        have B2 := kp2.bag
        refine ite_i (fun _ => ka _ ?_) (fun _ => kb _ ?_)
        · clear ka kb
          walk_at "rd"
          refine ⟨b, _, rfl, B2, by omega, by omega, fun k H3 k0 k1 kp3 => ?_⟩
          obtain ⟨k, rfl⟩ := ni_nat k0
          have hh3 := kp3.lst B2 hh2
          have ho3 := kp3.lst B2 ho2
          walk_at "rd"
          refine ⟨_, ho3, _, ni_at (by omega), _, ho3, _, ni_at (by omega), _, _, rfl, hh3, order.getD (i + 1) 0, ix_ni (by omega), ?_⟩
          rw [ni_set]
          obtain ⟨p1, p2, p3, p4, p5, p6⟩ := put k H3 (by omega) (kpH.trans kp3) ho3
          exact ⟨_, p1, p2, p3, p4, rfl, p5, p6⟩
        · clear ka kb
          walk_at "rd"
          exact ⟨hol, lh, h0, vh, hr, hh2, ho2, kpH⟩
    rintro σ H' ⟨v5, hol, rfl, lh, h0, vh, hr, hh, ho, kp⟩
    exact done_ hol H' v5 lh h0 vh hr hh kp
end
section
variable {P : Program} {w : World} {K : PySem.W.Frag} {mg : Str → Option Value} {base : Heap}
theorem ok__law_drawn_told (S : Src K mg "_law_drawn_told" s__law_drawn_told) (T : Tx P K mg) (C__law_holders : Cal P w K mg base CX0 3 "_law_holders" ["_law_bag_here", "_law_many"] spHolders) (C__law_shuffled : Cal P w K mg base CX0 2 "_law_shuffled" ["_law_bag_here", "_law_things"] spShuf) (C__law_pick : Cal P w K mg base CX0 1 "_law_pick" ["_law_bag_here", "_law_many"] spPick)  : Cal P w K mg base CX0 4 "_law_drawn_told" ["_law_bag_here", "_law_many", "_law_most"] spLDrawn := by
  refine S.cal sc__law_drawn_told bn__law_drawn_told (fun vs H Q E h => ?_) (fun f cdv A outer s H vs Q E hr h => ?_)
  · first | (obtain ⟨rfl, _⟩ := h; rfl) | (obtain ⟨_, rfl, _⟩ := h; rfl) | (obtain ⟨_, _, rfl, _⟩ := h; rfl) | (obtain ⟨_, _, _, rfl, _⟩ := h; rfl) | (obtain ⟨_, _, _, _, rfl, _⟩ := h; rfl) | (obtain ⟨_, _, _, _, _, rfl, _⟩ := h; rfl) | (obtain ⟨_, _, _, _, _, _, rfl, _⟩ := h; rfl) | (obtain ⟨_, _, _, _, _, _, _, rfl, _⟩ := h; rfl) | (obtain ⟨_, _, _, _, _, _, _, _, rfl, _⟩ := h; rfl) | (obtain ⟨_, _, _, _, _, _, _, _, _, rfl, _⟩ := h; rfl) | (obtain ⟨_, _, _, _, _, _, _, _, _, _, rfl, _⟩ := h; rfl) | (obtain ⟨_, _, _, _, _, _, _, _, _, _, _, rfl, _⟩ := h; rfl) | (obtain ⟨_, _, _, _, _, _, _, _, _, _, _, _, rfl, _⟩ := h; rfl)
  · skip
    refine ⟨_, (pss_cons (ps_set (i := 3) sc__law_drawn_told.nd rfl (Or.inr rfl) (Fx.pe_cal C__law_holders (hr.mono (by decide)) pass0 (Fx.pa_c (pv 0) (Fx.pa_c (pv 1) pa_nil))))
        (pss_cons (ps_set (i := 4) sc__law_drawn_told.nd rfl (Or.inl rfl) (pe_op op_rep (pe_lst (Fx.pa_c pe_int pa_nil)) (pe_op op_add (pv 1) pe_int)))
        (pss_cons (ps_set (i := 5) sc__law_drawn_told.nd rfl (Or.inl rfl) (pe_op op_rep (pe_lst (Fx.pa_c pe_int pa_nil)) (pe_op op_add (pv 1) pe_int)))
        (pss_cons (ps_for PassesOwn.never rfl (pi_range2 rfl T.b_range (Fx.pa_c pe_int (Fx.pa_c (pe_op op_add (pv 1) pe_int) pa_nil))) (pg_name (i := 6) sc__law_drawn_told.nd rfl (Or.inr rfl)) (pss_cons (ps_set (i := 7) sc__law_drawn_told.nd rfl (Or.inl rfl) (Fx.pe_cal C__law_shuffled (hr.mono (by decide)) pass0 (Fx.pa_c (pv 0) (Fx.pa_c (pe_lc (own := [("_law_one", 13)]) rfl sc__law_drawn_told.nd (pi_range2 rfl T.b_range (Fx.pa_c pe_int (Fx.pa_c (pe_op op_add (pv 1) pe_int) pa_nil))) (blkOk_by (N := N__law_drawn_told) (sc := defScope s__law_drawn_told) (by decide +kernel)) (fun _ _ _ _ _ => (pg_name (i := 13) sc__law_drawn_told.nd rfl (Or.inl rfl))) (fun _ _ _ _ _ => (pts_one (pt_cmpR op_eq (pe_ix Fx.ix_L (pv 3) (pv 13) (fun _ _ => rfl)) (pv 6) (nomark _)))) (fun _ _ _ _ _ => (pv 13))) pa_nil))))
        (pss_cons (ps_for PassesOwn.never rfl (pi_range1 rfl T.b_range (Fx.pa_c (pe_op op_sub (Fx.pe_cB Fx.len_L T.b_len (by decide +kernel) (Fx.pa_c (pv 7) pa_nil)) pe_int) pa_nil)) (pg_name (i := 8) sc__law_drawn_told.nd rfl (Or.inl rfl)) (pss_one (ps_asg (pe_ix Fx.ix_L (pv 7) (pe_op op_add (pv 8) pe_int) (fun _ _ => rfl)) (pg_sub (pv 4) (pe_ix Fx.ix_L (pv 7) (pv 8) (fun _ _ => rfl)) set_list))))
        (pss_one (ps_asg (pe_ix Fx.ix_L (pe_op op_cat (pv 7) (pe_lst (Fx.pa_c pe_int pa_nil))) pe_int (fun _ _ => rfl)) (pg_sub (pv 5) (pv 6) set_list))))))
        (pss_cons (ps_set (i := 9) sc__law_drawn_told.nd rfl (Or.inl rfl) (pe_lst pa_nil))
        (pss_cons (ps_for PassesOwn.never rfl (pi_range2 rfl T.b_range (Fx.pa_c pe_int (Fx.pa_c (pe_op op_add (pv 1) pe_int) pa_nil))) (pg_name (i := 6) sc__law_drawn_told.nd rfl (Or.inr rfl)) (pss_cons (ps_set (i := 10) sc__law_drawn_told.nd rfl (Or.inl rfl) (pe_lst pa_nil))
        (pss_cons (ps_for PassesOwn.never rfl (pi_range1 rfl T.b_range (Fx.pa_c (Fx.pe_cal C__law_pick (hr.mono (by decide)) pass0 (Fx.pa_c (pv 0) (Fx.pa_c pe_int pa_nil))) pa_nil)) (pg_name (i := 11) sc__law_drawn_told.nd rfl (Or.inl rfl)) (pss_cons (ps_set (i := 12) sc__law_drawn_told.nd rfl (Or.inl rfl) (Fx.pe_cal C__law_pick (hr.mono (by decide)) pass0 (Fx.pa_c (pv 0) (Fx.pa_c (pv 2) pa_nil))))
        (pss_one (ps_if (pt_cmpR op_notIn_seq (pv 12) (pv 10) rfl) (pss_one (ps_expr (pe_bm PySem.F.plainAttrs_list PySem.F.slot_list_append PySem.F.type_list_append mt_append (pv 10) (Fx.pa_c (pv 12) pa_nil)))) pss_nil))))
        (pss_one (ps_expr (pe_bm PySem.F.plainAttrs_list PySem.F.slot_list_append PySem.F.type_list_append mt_append (pv 9) (Fx.pa_c (pe_tup (Fx.pa_c (Fx.pe_cTy Fx.tup_L T.b_tuple (by decide +kernel) (Fx.pa_c (Fx.pe_cB cr_sortedI T.b_sorted (by decide +kernel) (Fx.pa_c (pv 10) pa_nil)) pa_nil)) (Fx.pa_c (pe_ix Fx.ix_L (pv 3) (pv 6) (fun _ _ => rfl)) (Fx.pa_c (pe_ix Fx.ix_L (pv 4) (pv 6) (fun _ _ => rfl)) (Fx.pa_c (pe_ix Fx.ix_L (pv 5) (pv 6) (fun _ _ => rfl)) pa_nil))))) pa_nil)))))))
        (pss_one (ps_ret (pv 9))))))))), ?_⟩
    obtain ⟨b, n, rfl, hB, n1, n60, q⟩ := h
    refine seqI fun K1 k1 => ?_
    walk_at "rd"
    refine ⟨b, n, rfl, hB, n1, n60, fun qh hol H1 kp1 nqh hh ok => k1 _ _ ?_⟩
    clear k1
    have B1 := kp1.bag
    refine seqI fun K1 k1 => ?_
    walk_at "rd"
    have zb : 1 * ((n : Int) + 1).toNat ≤ sizeLine := Nat.le_trans (by omega : _ ≤ 100) (by decide)
    refine ⟨by decide, fun l0 nl0 => ⟨by omega, by omega, zb, fun qb nqb => k1 _ _ ?_⟩⟩
    clear k1
    rw [rep_flat]
    have s2 := (same_new (o := .lst [.int 0]) nl0).trans (same_new (o := .lst (ni (List.replicate (n + 1) 0))) nqb)
    have hb2 : (upd (upd H1 l0 (.lst [.int 0])) qb (.lst (ni (List.replicate (n + 1) 0)))) qb = some (.lst (ni (List.replicate (n + 1) 0))) := upd_same
    have nqb1 := (same_new (o := .lst [.int 0]) nl0).free nqb
    generalize upd (upd H1 l0 (.lst [.int 0])) qb (.lst (ni (List.replicate (n + 1) 0))) = H2 at s2 hb2
    clear l0 nl0 nqb
    refine seqI fun K1 k1 => ?_
    walk_at "rd"
    refine ⟨by decide, fun l0 nl0 => ⟨by omega, by omega, zb, fun qf nqf => k1 _ _ ?_⟩⟩
    clear k1
    rw [rep_flat]
    have s3 := (same_new (o := .lst [.int 0]) nl0).trans (same_new (o := .lst (ni (List.replicate (n + 1) 0))) nqf)
    have hf3 : (upd (upd H2 l0 (.lst [.int 0])) qf (.lst (ni (List.replicate (n + 1) 0)))) qf = some (.lst (ni (List.replicate (n + 1) 0))) := upd_same
    have nqf2 := (same_new (o := .lst [.int 0]) nl0).free nqf
    generalize upd (upd H2 l0 (.lst [.int 0])) qf (.lst (ni (List.replicate (n + 1) 0))) = H3 at s3 hf3
    clear l0 nl0 nqf zb
    have hb3 := s3 _ _ hb2
    have hh3 := s3 _ _ (s2 _ _ hh)
    have kp3 := kp1.then (s2.trans s3)
    have nbf : qb ≠ qf := fun e => by rw [e, nqf2] at hb2; cases hb2
    have nhb : qh ≠ qb := fun e => by rw [e, nqb1] at hh; cases hh
    have nhf : qh ≠ qf := fun e => by
      have := s2 _ _ hh
      rw [e, nqf2] at this
      cases this
    have nqbH : H qb = none := kp1.free nqb1
    have nqfH : H qf = none := kp1.free (s2.free nqf2)
    clear s2 s3 hb2 nqb1 nqf2 hh B1 kp1 nqh
    refine seqI fun K0 k0 => ?_
    refine forI fun R0 hR => ?_
    walk_at "rd"
    refine ⟨by decide, by decide, by omega, by omega, hR _ _ ?_⟩
    clear hR
    rw [show ((n : Int) + 1 - 1).toNat = n by omega]
    have lh := ok.len
    refine for_range (lo := 1) (n := n) (fun i σ H' => ∃ (v6 v7 v8 : Option V) (bes fir : List Nat) (P : Nat → List Nat), σ = [some (.ref b), some (.int (n : Nat)), some (.int 32), some (.ref qh), some (.ref qb), some (.ref qf), v6, v7, v8, none, none, none, none, none] ∧ H' qh = some (.lst (ni hol)) ∧ H' qb = some (.lst (ni bes)) ∧ H' qf = some (.lst (ni fir)) ∧ Kp b H H' ∧ bes.length = n + 1 ∧ fir.length = n + 1 ∧ (∀ v ∈ bes, v ≤ n) ∧ (∀ v ∈ fir, v ≤ n) ∧ (∀ t, 1 ≤ t → t ≤ i → (P t).Perm ((List.range' 1 n).filter fun z => decide (hol.getD z 0 = t)) ∧ Chain bes (fir.getD t 0) (P t)) ∧ ∀ z, hol.getD z 0 = 0 ∨ i < hol.getD z 0 → bes.getD z 0 = 0) ⟨none, none, none, _, _, fun _ => [], rfl, hh3, hb3, hf3, kp3, List.length_replicate, List.length_replicate, fun v hv => by rw [(List.mem_replicate.mp hv).2]; exact Nat.zero_le _, fun v hv => by rw [(List.mem_replicate.mp hv).2]; exact Nat.zero_le _, fun t t1 t2 => by omega, fun z _ => rep_getD _ _⟩ ?_ ?_
    · clear hh3 hb3 hf3 kp3
      rintro i σ H' hi ⟨v6, v7, v8, bes, fir, P, rfl, hh, hb, hf, kp, lb, lf, vb, vf, hP, hz⟩
      have B1 := kp.bag
      have e1 : (1 : Int) + (i : Nat) = ((i + 1 : Nat) : Int) := by omega
      refine seqI fun K1 k1 => ?_
      rw [e1]
      generalize hte : tVar 13 = te
      generalize hgg : gName 13 = gg
      generalize htt : tTest (tOp rEq (tOp rIxLt (tVar 3) te) (tVar 6)) = tt
      unfold tLc
      walk_at "rd"
      refine ⟨by decide, by decide, by omega, by omega, fun D nD => ?_⟩
      rw [show ((n : Int) + 1 - 1).toNat = n by omega]
      refine lc_range (lo := 1) (n := n) (g := gg) (tt := tt) (te := te) (vs := [13]) (σ := [some (.ref b), some (.int (n : Nat)), some (.int 32), some (.ref qh), some (.ref qb), some (.ref qf), some (.int ((i + 1 : Nat) : Int)), v7, v8, none, none, none, none, none]) (fun k H2 => H2 D = some (.lst (ni ((List.range' 1 k).filter fun z => decide (hol.getD z 0 = i + 1)))) ∧ Same H' H2) ⟨upd_same, same_new nD⟩ ?_ ?_
      · rintro k H4 hk ⟨hD, s4⟩
        have ei : (1 : Int) + (k : Nat) = ((1 + k : Nat) : Int) := by omega
        obtain ⟨f1, f2⟩ := filS hD (by omega) nD s4
        rw [ei, ← htt, ← hte, ← hgg]
        refine ⟨rfl, ?_⟩
        walk_at "rd"
        refine ⟨_, s4 _ _ hh, _, ni_at (by omega), rfl, ?_⟩
        by_cases g3 : hol.getD (1 + k) 0 = i + 1
        · rw [if_pos (by rw [g3])]
          exact f1 (decide_eq_true g3)
        · rw [if_neg (fun z => g3 (by have := V.int.inj z; omega))]
          exact f2 (decide_eq_false g3)
      rintro H2 ⟨hD, s2⟩
      clear hte hgg htt
      obtain ⟨F, hF⟩ : ∃ F, F = (List.range' 1 n).filter fun z => decide (hol.getD z 0 = i + 1) := ⟨_, rfl⟩
      rw [← hF] at hD
      have lF : F.length ≤ 60 := by
        have := List.length_filter_le (fun z => decide (hol.getD z 0 = i + 1)) (List.range' 1 n)
        rw [List.length_range', ← hF] at this
        omega
      refine ⟨b, D, _, rfl, B1.same s2, hD, by rw [ni_len]; omega, fun qp ys H3 pm0 kp3 nqp hqp => k1 _ _ ?_⟩
      clear k1
      obtain ⟨l, rfl, pm⟩ := perm_ni pm0
      have kp3' := (Kp.same B1 s2).trans kp3
      have nqp' := s2.free nqp
      have npb : qp ≠ qb := fun e => by rw [e, hb] at nqp'; cases nqp'
      have npf : qp ≠ qf := fun e => by rw [e, hf] at nqp'; cases nqp'
      have hh := kp3'.lst B1 hh
      have hb := kp3'.lst B1 hb
      have hf := kp3'.lst B1 hf
      have kp3 := kp.trans kp3'
      clear kp3' s2 hD nD pm0 B1
      have B3 := kp3.bag
      have ll : l.length ≤ 60 := by rw [pm.length_eq]; exact lF
      have ml : ∀ z, z ∈ l ↔ 1 ≤ z ∧ z ≤ n ∧ hol.getD z 0 = i + 1 := fun z => by
        rw [pm.mem_iff, hF, List.mem_filter, List.mem_range'_1, decide_eq_true_eq]
        exact ⟨fun z => ⟨z.1.1, by omega, z.2⟩, fun z => ⟨⟨z.1, by omega⟩, z.2.2⟩⟩
      have ndl : l.Nodup := pm.nodup_iff.mpr (by rw [hF]; exact (List.nodup_range' ..).filter _)
      refine seqI fun K1 k1 => ?_
      refine forI fun R0 hR => ?_
      walk_at "rd"
      refine ⟨_, hqp, by rw [ni_len]; omega, by rw [ni_len]; omega, hR _ _ ?_⟩
      clear hR
      rw [show (((ni l).length : Nat) : Int) - 1 = (l.length : Nat) - 1 by rw [ni_len], show (((l.length : Nat) : Int) - 1).toNat = l.length - 1 by omega]
      have hle : ∀ z ∈ l, z ≤ n := fun z hz => ((ml z).mp hz).2.1
      refine for_range (lo := 0) (n := l.length - 1) (fun k σ H4 => ∃ (v8 : Option V) (bes' : List Nat), σ = [some (.ref b), some (.int (n : Nat)), some (.int 32), some (.ref qh), some (.ref qb), some (.ref qf), some (.int ((i + 1 : Nat) : Int)), some (.ref qp), v8, none, none, none, none, none] ∧ H4 qh = some (.lst (ni hol)) ∧ H4 qb = some (.lst (ni bes')) ∧ H4 qf = some (.lst (ni fir)) ∧ H4 qp = some (.lst (ni l)) ∧ Kp b H H4 ∧ bes'.length = n + 1 ∧ (∀ v ∈ bes', v ≤ n) ∧ (∀ j < k, bes'.getD (l.getD j 0) 0 = l.getD (j + 1) 0) ∧ ∀ z, z ∉ l.take k → bes'.getD z 0 = bes.getD z 0) ⟨_, bes, rfl, hh, hb, hf, hqp, kp3, lb, vb, fun j h => by omega, fun z _ => rfl⟩ ?_ ?_
      · clear hh hb hf hqp kp3 B3
        rintro k σ H4 hk ⟨v8, bes', rfl, hh, hb, hf, hqp, kp4, lb', vb', h1, h2⟩
        have kl : k + 1 < l.length := by omega
        have ek : (0 : Int) + (k : Nat) = (k : Nat) := by omega
        have ek1 : ((k : Nat) : Int) + 1 = ((k + 1 : Nat) : Int) := by omega
        have gk : l[k]? = some (l.getD k 0) := by rw [List.getD_eq_getElem?_getD, List.getElem?_eq_getElem (by omega)]; rfl
        have gk1 : l[k + 1]? = some (l.getD (k + 1) 0) := by rw [List.getD_eq_getElem?_getD, List.getElem?_eq_getElem (by omega)]; rfl
        have mk := hle _ (List.mem_of_getElem? gk)
        have mk1 := hle _ (List.mem_of_getElem? gk1)
        rw [ek]
        walk_at "rd"
        rw [ek1]
        refine ⟨_, hqp, _, ni_at (by omega), _, hqp, _, ni_at (by omega), _, _, rfl, hb, l.getD k 0, ?_, ?_⟩
        · unfold ixN
          rw [if_pos (by omega), if_pos (by rw [ni_len]; omega)]
          rfl
        rw [ni_set]
        have other : ∀ {a : Addr} {xs : List V}, H4 a = some (.lst xs) → a ≠ qb → (upd H4 qb (.lst (ni (bes'.set (l.getD k 0) (l.getD (k + 1) 0))))) a = some (.lst xs) := fun h ne => by rw [upd_ne ne]; exact h
        refine ⟨other hh nhb, _, rfl, other hf (Ne.symm nbf), other hqp npb, Kp.put hB kp4 nqbH, by rw [List.length_set]; exact lb', set_le vb' mk1, fun j hj => ?_, fun z hz2 => ?_⟩
        · by_cases e : j = k
          · rw [e, getD_set, if_pos ⟨rfl, by rw [lb']; omega⟩]
          · have gj : l[j]? = some (l.getD j 0) := by rw [List.getD_eq_getElem?_getD, List.getElem?_eq_getElem (by omega)]; rfl
            rw [getD_set, if_neg (fun z => e ((List.getElem?_inj (by omega) ndl).mp (by rw [gj, gk, z.1])))]
            exact h1 j (by omega)
        · rw [take_getD (by omega), List.mem_append, not_or] at hz2
          rw [getD_set, if_neg (fun w => hz2.2 (by rw [w.1]; exact List.mem_singleton.mpr rfl))]
          exact h2 z hz2.1
      clear hh hb hf hqp kp3 B3
      rintro σ H4 ⟨v8, bes', rfl, hh, hb, hf, hqp, kp4, lb', vb', h1, h2⟩
      refine k1 _ _ ?_
      clear k1
      walk_at "rd"
      have hl1 : (ni l).length + 1 ≤ sizeLine := by rw [ni_len]; exact Nat.le_trans (by omega : _ ≤ 100) (by decide)
      refine ⟨by decide, fun l0 nl0 => ⟨_, same_new nl0 _ _ hqp, hl1, fun q1 nq1 => ⟨.int ((l ++ [0]).getD 0 0 : Nat), by rw [ni0, ← ni_app]; exact ni_at (i := 0) (by simp), ?_⟩⟩⟩
      have sA := (same_new (o := .lst [.int 0]) nl0).trans (same_new (o := .lst (ni l ++ [.int 0])) nq1)
      generalize upd (upd H4 l0 (.lst [.int 0])) q1 (.lst (ni l ++ [.int 0])) = H5 at sA
      have hf5 := sA _ _ hf
      have other : ∀ {a : Addr} {xs ys : List V}, H5 a = some (.lst xs) → a ≠ qf → (upd H5 qf (.lst ys)) a = some (.lst xs) := fun h ne => by rw [upd_ne ne]; exact h
      have i1 : 1 ≤ i + 1 := by omega
      have lz : ∀ z ∈ l, z ≠ 0 := fun z hz => by have := ((ml z).mp hz).1; omega
      have last0 : l ≠ [] → bes'.getD (l.getD (l.length - 1) 0) 0 = 0 := fun ne => by
        have pl := List.length_pos_iff.mpr ne
        have gl : l[l.length - 1]? = some (l.getD (l.length - 1) 0) := by rw [List.getD_eq_getElem?_getD, List.getElem?_eq_getElem (by omega)]; rfl
        have gm := (ml _).mp (List.mem_of_getElem? gl)
        rw [h2 _ fun z => ?_]
        · exact hz _ (.inr (by omega))
        · obtain ⟨j, hj⟩ := List.getElem?_of_mem z
          have hj2 := (List.getElem?_eq_some_iff.mp hj).1
          rw [List.length_take] at hj2
          rw [List.getElem?_take_of_lt (by omega)] at hj
          have := (List.getElem?_inj (by omega) ndl).mp (hj.trans gl.symm)
          omega
      refine ⟨_, hf5, i + 1, ?_, other (sA _ _ hh) nhf, bes', other (sA _ _ hb) nbf, fir.set (i + 1) ((l ++ [0]).getD 0 0), ni_set .., Kp.put hB (kp4.then sA) nqfH, lb', by rw [List.length_set]; exact lf, vb', set_le vf ?_, fun t => if t = i + 1 then l else P t, fun t t1 t2 => ?_, fun z hz2 => ?_⟩
      · unfold ixN
        rw [if_pos (by omega), if_pos (by rw [ni_len]; omega)]
        rfl
      · exact getD_le (n := n) fun v hv => by
          rcases List.mem_append.mp hv with h | h
          · exact hle v h
          · rw [List.mem_singleton.mp h]
            exact Nat.zero_le _
      · show (if t = i + 1 then l else P t).Perm _ ∧ Chain bes' _ (if t = i + 1 then l else P t)
        by_cases e : t = i + 1
        · rw [if_pos e, e, getD_set, if_pos ⟨rfl, by omega⟩]
          exact ⟨by rw [← hF]; exact pm, chain_idx lz (fun j hj => h1 j (by omega)) last0⟩
        · rw [if_neg e, getD_set, if_neg (fun z => e z.1.symm)]
          obtain ⟨p1, p2⟩ := hP t t1 (by omega)
          refine ⟨p1, chain_congr p2 fun z hz2 => h2 z fun w => ?_⟩
          have a1 := ((ml z).mp (List.mem_of_mem_take w)).2.2
          have a2 := of_decide_eq_true (List.mem_filter.mp (p1.mem_iff.mp hz2)).2
          omega
      · rw [h2 z fun w => ?_]
        · exact hz z (hz2.imp id fun h => by omega)
        · have a1 := ((ml z).mp (List.mem_of_mem_take w)).2.2
          omega
    clear hh3 hb3 hf3 kp3
    rintro σ H3 ⟨v6, v7, v8, bes, fir, P, rfl, hh, hb, hf, kp, lb, lf, vb, vf, hP, hz⟩
    refine k0 _ _ ?_
    clear k0
    have B3 := kp.bag
    refine seqI fun K1 k1 => ?_
    walk_at "rd"
    refine ⟨by decide, fun qt nqt => k1 _ _ ?_⟩
    clear k1
    have sA := same_new (o := .lst []) nqt
    have nqtH := kp.free nqt
    refine seqI fun K0 k0 => ?_
    refine forI fun R0 hR => ?_
    walk_at "rd"
    refine ⟨by decide, by decide, by omega, by omega, hR _ _ ?_⟩
    clear hR
    rw [show ((n : Int) + 1 - 1).toNat = n by omega]
    refine for_range (lo := 1) (n := n) (fun i σ H' => ∃ (v6 v10 v11 v12 : Option V) (as : List Addr) (ms : List (List Nat)), σ = [some (.ref b), some (.int (n : Nat)), some (.int 32), some (.ref qh), some (.ref qb), some (.ref qf), v6, v7, v8, some (.ref qt), v10, v11, v12, none] ∧ as.length = i ∧ ms.length = i ∧ H' qt = some (.lst (as.map V.ref)) ∧ Kp b H3 H' ∧ (∀ m ∈ ms, m.Pairwise (· < ·) ∧ (∀ z ∈ m, z < 32) ∧ m.length ≤ 4) ∧ ∀ j a m, as[j]? = some a → ms[j]? = some m → RowAt H' a (m, hol.getD (j + 1) 0, bes.getD (j + 1) 0, fir.getD (j + 1) 0)) ⟨v6, none, none, none, [], [], rfl, rfl, rfl, upd_same, Kp.same B3 sA, fun m h => (by cases h), fun j a m e => (by cases e)⟩ ?_ ?_
    · rintro i σ H' hi ⟨v6, v10, v11, v12, as, ms, rfl, la, lm, ht, kp4, hm, row⟩
      have e1 : (1 : Int) + (i : Nat) = ((i + 1 : Nat) : Int) := by omega
      have B4 := kp4.bag
      rw [e1]
      refine seqI fun K1 k1 => ?_
      walk_at "rd"
      refine ⟨by decide, fun qm nqm => k1 _ _ ?_⟩
      clear k1
      have sM := same_new (o := .lst []) nqm
      refine seqI fun K1 k1 => ?_
      refine forI fun R0 hR => ?_
      walk_at "rd"
      refine ⟨b, 4, rfl, B4.same sM, by decide, by decide, fun m H5 m0 m1 kp5 => ⟨m, rfl, by omega, by omega, hR _ _ ?_⟩⟩
      clear hR
      obtain ⟨m, rfl⟩ := ni_nat m0
      rw [Int.toNat_natCast]
      have kp5' := (Kp.same B4 sM).trans kp5
      refine for_range (lo := 0) (n := m) (fun k σ H6 => ∃ (v11 v12 : Option V) (l : List Nat), σ = [some (.ref b), some (.int (n : Nat)), some (.int 32), some (.ref qh), some (.ref qb), some (.ref qf), some (.int ((i + 1 : Nat) : Int)), v7, v8, some (.ref qt), some (.ref qm), v11, v12, none] ∧ H6 qm = some (.lst (ni l)) ∧ Kp b H' H6 ∧ l.Nodup ∧ (∀ z ∈ l, z < 32) ∧ l.length ≤ k) ⟨_, _, [], rfl, kp5.lst (B4.same sM) upd_same, kp5', .nil, fun z h => (by cases h), Nat.le_refl _⟩ ?_ ?_
      · rintro k σ H6 hk ⟨v11, v12, l, rfl, hqm, kp6, nd, h32, ll⟩
        have B6 := kp6.bag
        refine seqI fun K1 k1 => ?_
        walk_at "rd"
        refine ⟨b, 32, rfl, B6, by decide, by decide, fun z H7 z0 z1 kp7 => k1 _ _ ?_⟩
        clear k1
        obtain ⟨z, rfl⟩ := ni_nat z0
        have hqm7 := kp7.lst B6 hqm
        have kp7 := kp6.trans kp7
        refine ifI fun A2 B2 ka kb => ?_
        walk_at "rd"
        refine ⟨qm, _, rfl, .inl (.inl (.inl hqm7)), rfl, flat_ni _, _, rfl, ?_⟩
        rw [show (if true = true then !inV (V.int (z : Nat)) (ni l) else inV (V.int (z : Nat)) (ni l)) = !decide (z ∈ l) from congrArg not (inV_ni l)]
        by_cases g : z ∈ l
        · rw [if_neg (by rw [decide_eq_true g]; decide)]
          refine kb _ ?_
          walk_at "rd"
          exact ⟨l, hqm7, kp7, nd, h32, by omega⟩
        · rw [if_pos (by rw [decide_eq_false g]; rfl)]
          refine ka _ ?_
          walk_at "rd"
          refine ⟨tyL hqm7, ?_⟩
          walk_at "rd"
          refine ⟨_, hqm7, by rw [ni_len]; exact Nat.lt_of_lt_of_le (by omega : _ < 100) (by decide), l ++ [z], by rw [ni_app]; rfl, Kp.put B4 kp7 nqm, List.nodup_append.mpr ⟨nd, by simp, fun x hx y hy e => g (by rw [← List.mem_singleton.mp hy, ← e]; exact hx)⟩, fun y hy => (List.mem_append.mp hy).elim (h32 y) fun h => by rw [List.mem_singleton.mp h]; omega, by rw [List.length_append, List.length_singleton]; omega⟩
      rintro σ H6 ⟨v11, v12, l, rfl, hqm, kp6, nd, h32, ll⟩
      refine k1 _ _ ?_
      clear k1
      have ht6 := kp6.lst B4 ht
      have hh6 := kp6.lst B4 (kp4.lst B3 hh)
      have hb6 := kp6.lst B4 (kp4.lst B3 hb)
      have hf6 := kp6.lst B4 (kp4.lst B3 hf)
      walk_at "rd"
      refine ⟨tyL ht6, ?_⟩
      refine ⟨qm, l.map fun n => ((n : Nat) : Int), rfl, .inl (.inl (by rw [hqm, ni_int])), fun ns ps pm pw nps => ?_⟩
      have ev : ns.map V.int = ni (srtN l) := by
        rw [srt_int pm pw, ← ni_int]
      rw [ev]
      have s7 := same_new (o := .lst (ni (srtN l))) nps
      have hp7 : (upd H6 ps (.lst (ni (srtN l)))) ps = some (.lst (ni (srtN l))) := upd_same
      generalize upd H6 ps (.lst (ni (srtN l))) = H7 at s7 hp7
      refine ⟨_, rfl, _, hp7, fun tm ntm => ?_⟩
      have s8 := same_new (o := .tup (ni (srtN l))) ntm
      refine ⟨_, s8 _ _ (s7 _ _ hh6), _, ni_at (by omega), _, s8 _ _ (s7 _ _ hb6), _, ni_at (by omega), _, s8 _ _ (s7 _ _ hf6), _, ni_at (by omega), by decide, fun tr ntr => ?_⟩
      have h1 := same_new (o := .tup [.ref tm, .int (hol.getD (i + 1) 0 : Nat), .int (bes.getD (i + 1) 0 : Nat), .int (fir.getD (i + 1) 0 : Nat)]) ntr _ _ (upd_same (H := H7) (a := tm) (o := .tup (ni (srtN l))))
      have h2 : (upd (upd H7 tm (.tup (ni (srtN l)))) tr (.tup [.ref tm, .int (hol.getD (i + 1) 0 : Nat), .int (bes.getD (i + 1) 0 : Nat), .int (fir.getD (i + 1) 0 : Nat)])) tr = some (.tup [.ref tm, .int (hol.getD (i + 1) 0 : Nat), .int (bes.getD (i + 1) 0 : Nat), .int (fir.getD (i + 1) 0 : Nat)]) := upd_same
      have s9 := (s7.trans s8).trans (same_new (o := .tup [.ref tm, .int (hol.getD (i + 1) 0 : Nat), .int (bes.getD (i + 1) 0 : Nat), .int (fir.getD (i + 1) 0 : Nat)]) ntr)
      generalize upd (upd H7 tm (.tup (ni (srtN l)))) tr (.tup [.ref tm, .int (hol.getD (i + 1) 0 : Nat), .int (bes.getD (i + 1) 0 : Nat), .int (fir.getD (i + 1) 0 : Nat)]) = H9 at s9 h1 h2
      have ht9 := s9 _ _ ht6
      refine ⟨_, ht9, by rw [List.length_map, la]; exact Nat.lt_of_lt_of_le (by omega : _ < 100) (by decide), as ++ [tr], by rw [List.length_append, la]; rfl, ms ++ [srtN l], by rw [List.length_append, lm]; rfl, by rw [List.map_append]; rfl, Kp.put B3 ((kp4.trans kp6).then s9) nqt, fun m' hm' => ?_, fun j a m' e1 e2 => ?_⟩
      · rcases List.mem_append.mp hm' with h | h
        · exact hm m' h
        · rw [List.mem_singleton.mp h]
          have ns := (srtN_perm l).nodup_iff.mpr nd
          refine ⟨?_, fun z hz => h32 z ((srtN_perm l).mem_iff.mp hz), by rw [(srtN_perm l).length_eq]; omega⟩
          exact (List.pairwise_and_iff.mpr ⟨srtN_pw l, ns⟩).imp fun h => by omega
      · by_cases hj : j < as.length
        · rw [List.getElem?_append_left hj] at e1
          rw [List.getElem?_append_left (by omega)] at e2
          exact (((row j a m' e1 e2).kp B4 kp6).same s9).put ht9
        · have hj2 := (List.getElem?_eq_some_iff.mp e1).1
          rw [List.length_append, List.length_singleton] at hj2
          have ej : j = as.length := by omega
          rw [ej, List.getElem?_append_right (Nat.le_refl _), Nat.sub_self] at e1
          rw [ej, la, ← lm, List.getElem?_append_right (Nat.le_refl _), Nat.sub_self] at e2
          cases e1
          cases e2
          rw [ej, la]
          exact RowAt.put ⟨tm, h2, h1⟩ ht9
    rintro σ H4 ⟨v6, v10, v11, v12, as, ms, rfl, la, lm, ht, kp4, hm, row⟩
    refine k0 _ _ ?_
    walk_at "rd"
    obtain ⟨rs, hrs⟩ : ∃ rs, rs = (List.range n).map fun j => rowB (ms.getD j [], hol.getD (j + 1) 0, bes.getD (j + 1) 0, fir.getD (j + 1) 0) := ⟨_, rfl⟩
    have lr : rs.length = n := by rw [hrs, List.length_map, List.length_range]
    have gr : ∀ j, j < n → rs[j]? = some (rowB (ms.getD j [], hol.getD (j + 1) 0, bes.getD (j + 1) 0, fir.getD (j + 1) 0)) := fun j hj => by
      rw [hrs, List.getElem?_map, List.getElem?_range hj]
      rfl
    have gm : ∀ j, j < n → ms[j]? = some (ms.getD j []) := fun j hj => by
      rw [List.getD_eq_getElem?_getD, List.getElem?_eq_getElem (by omega)]
      rfl
    have gok : ∀ j, j < n → (ms.getD j []).Pairwise (· < ·) ∧ (∀ z ∈ ms.getD j [], z < 32) ∧ (ms.getD j []).length ≤ 4 := fun j hj => hm _ (List.mem_of_getElem? (gm j hj))
    have rin : ∀ r ∈ rs, ∃ j, j < n ∧ r = rowB (ms.getD j [], hol.getD (j + 1) 0, bes.getD (j + 1) 0, fir.getD (j + 1) 0) := fun r hr => by
      rw [hrs] at hr
      obtain ⟨j, hj, rfl⟩ := List.mem_map.mp hr
      exact ⟨j, List.mem_range.mp hj, rfl⟩
    have bb := fun j => getD_le (i := j) vb
    have bf := fun j => getD_le (i := j) vf
    have bh := fun j => getD_le (i := j) ok.vh
    refine q qt as rs H4 (kp.trans kp4) ⟨ht, by rw [la, lr], fun j a r e1 e2 => ?_, fun r hr => ?_⟩ lr ?_
    · have hj := (List.getElem?_eq_some_iff.mp e1).1
      rw [gr j (by omega)] at e2
      cases e2
      exact row_br (row j a _ e1 (gm j (by omega)))
    · obtain ⟨j, hj, rfl⟩ := rin r hr
      obtain ⟨g1, g2, g3⟩ := gok j hj
      have bb := bb (j + 1)
      have bf := bf (j + 1)
      have bh := bh (j + 1)
      show RowS 33 (intsD (ms.getD j []), .int (hol.getD (j + 1) 0 : Nat), .int (bes.getD (j + 1) 0 : Nat), .int (fir.getD (j + 1) 0 : Nat))
      refine ⟨mk_tup (M := 4) (fun x hx => ?_) (by rw [List.length_map]; exact g3) (by decide) (by decide), sm_i (by omega) (by omega), sm_i (by omega) (by omega), sm_i (by omega) (by omega)⟩
      obtain ⟨z, hz, rfl⟩ := List.mem_map.mp hx
      have := g2 z hz
      exact sm_i (by omega) (by omega)
    · have e0 : ∀ (l : List Nat), l.length = n + 1 → l.getD 0 0 = 0 → (0 :: (List.range n).map fun j => l.getD (j + 1) 0) = l := fun l hl h0 => by
        cases l with
        | nil => cases hl
        | cons x l =>
          have x0 : x = 0 := h0
          have hl : l.length = n := Nat.succ.inj hl
          rw [x0]
          congr 1
          refine List.ext_getElem (by rw [List.length_map, List.length_range, hl]) fun k h1 h2 => ?_
          rw [List.getElem_map, List.getElem_range, List.getD_eq_getElem?_getD, List.getElem?_cons_succ, List.getElem?_eq_getElem h2]
          rfl
      have eh : holB rs = hol := by
        rw [holB, hrs, List.map_map]
        refine Eq.trans ?_ (e0 hol lh ok.h0)
        congr 1
      have eb : besB rs = bes := by
        rw [besB, hrs, List.map_map]
        refine Eq.trans ?_ (e0 bes lb (hz 0 (.inl ok.h0)))
        congr 1
      refine .inl ⟨fun r hr => ?_, .inl ⟨rfl, fun j hj => ?_⟩⟩
      · obtain ⟨j, hj, rfl⟩ := rin r hr
        obtain ⟨g1, g2, g3⟩ := gok j hj
        rw [lr]
        exact ⟨areM_ints g1 g2, isI_nat.mpr (bh _), isI_nat.mpr (bb _), isI_nat.mpr (bf _)⟩
      · rw [lr] at hj
        obtain ⟨p1, p2⟩ := hP (j + 1) (by omega) (by omega)
        obtain ⟨rk, hrk⟩ := ok.rk
        unfold Among
        rw [eh, eb, lr, (holB_get (gr j hj)).2.2]
        refine ⟨⟨P (j + 1), p1.nodup_iff.mpr ((List.nodup_range' ..).filter _), fun z => ?_, ?_⟩, no_cyc ok.vh ok.h0 (fun t t1 t2 => cyc_no ok.vh hrk t1 t2 ok.h0) (j + 1) (by omega) (by omega), fun h0 => hz _ (.inl h0)⟩
        · rw [p1.mem_iff, List.mem_filter, List.mem_range'_1, decide_eq_true_eq]
          exact ⟨fun z => ⟨z.1.1, by omega, z.2⟩, fun z => ⟨⟨z.1, by omega⟩, z.2.2⟩⟩
        · rw [show natD (rowB (ms.getD j [], hol.getD (j + 1) 0, bes.getD (j + 1) 0, fir.getD (j + 1) 0)).2.2.2 = fir.getD (j + 1) 0 from natD_int _]
          exact p2
end
section
variable {P : Program} {w : World} {K : PySem.W.Frag} {mg : Str → Option Value} {base : Heap}
theorem ok__law_bad_row (S : Src K mg "_law_bad_row" s__law_bad_row) (T : Tx P K mg) (C__law_integer : Cal P w K mg base CX0 1 "_law_integer" ["_law_thing"] spIntegerG)  : Cal P w K mg base CX0 2 "_law_bad_row" ["_law_row", "_law_many"] spLBadRow := by
  refine S.cal sc__law_bad_row bn__law_bad_row (fun vs H Q E h => ?_) (fun f cdv A outer s H vs Q E hr h => ?_)
  · first | (obtain ⟨rfl, _⟩ := h; rfl) | (obtain ⟨_, rfl, _⟩ := h; rfl) | (obtain ⟨_, _, rfl, _⟩ := h; rfl) | (obtain ⟨_, _, _, rfl, _⟩ := h; rfl) | (obtain ⟨_, _, _, _, rfl, _⟩ := h; rfl) | (obtain ⟨_, _, _, _, _, rfl, _⟩ := h; rfl) | (obtain ⟨_, _, _, _, _, _, rfl, _⟩ := h; rfl) | (obtain ⟨_, _, _, _, _, _, _, rfl, _⟩ := h; rfl) | (obtain ⟨_, _, _, _, _, _, _, _, rfl, _⟩ := h; rfl) | (obtain ⟨_, _, _, _, _, _, _, _, _, rfl, _⟩ := h; rfl) | (obtain ⟨_, _, _, _, _, _, _, _, _, _, rfl, _⟩ := h; rfl) | (obtain ⟨_, _, _, _, _, _, _, _, _, _, _, rfl, _⟩ := h; rfl) | (obtain ⟨_, _, _, _, _, _, _, _, _, _, _, _, rfl, _⟩ := h; rfl)
  · skip
    refine ⟨_, (pss_cons (ps_if (pt_not (pt_val (Fx.pe_cB Fx.is_B T.b_isinstance (by decide +kernel) (Fx.pa_c (pe_ix Fx.ix_T (pv 0) pe_int (fun _ _ => rfl)) (Fx.pa_c (pe_bltn (v := .ty "tuple") (by rfl) T.b_tuple (by decide +kernel) rfl) pa_nil))))) (pss_one (ps_ret pe_bl)) pss_nil)
        (pss_cons (ps_set (i := 2) sc__law_bad_row.nd rfl (Or.inl rfl) (pe_un un_neg pe_int))
        (pss_cons (ps_for PassesOwn.never rfl (Fx.pi_Q (pe_ix Fx.ix_T (pv 0) pe_int (fun _ _ => rfl))) (pg_name (i := 3) sc__law_bad_row.nd rfl (Or.inl rfl)) (pss_cons (ps_if (PW.pt (pw_or (pt_not (pt_val (Fx.pe_cal C__law_integer (hr.mono (by decide)) pass0 (Fx.pa_c (pv 3) pa_nil)))) (pw_or (pt_cmpR op_le (pv 3) (pv 2) (nomark _)) (pw_or1 (pt_cmpR op_gt (pv 3) pe_int (nomark _)))))) (pss_one (ps_ret pe_bl)) pss_nil)
        (pss_one (ps_set (i := 2) sc__law_bad_row.nd rfl (Or.inl rfl) (pv 3)))))
        (pss_cons (ps_for PassesOwn.never rfl (pi_tup (pe_slice sl_tupA (pv 0) (po_some pe_int) po_none)) (pg_name (i := 4) sc__law_bad_row.nd rfl (Or.inl rfl)) (pss_one (ps_if (PW.pt (pw_or (pt_not (pt_val (Fx.pe_cal C__law_integer (hr.mono (by decide)) pass0 (Fx.pa_c (pv 4) pa_nil)))) (pw_or (pt_cmpR op_lt (pv 4) pe_int (nomark _)) (pw_or1 (pt_cmpR op_gt (pv 4) (pv 1) (nomark _)))))) (pss_one (ps_ret pe_bl)) pss_nil)))
        (pss_one (ps_ret pe_bl)))))), ?_⟩
    obtain ⟨a, r, n, rfl, hra, q⟩ := h
    obtain ⟨v0, v1, v2, v3, h0, h1, h2, h3, h4⟩ := id hra
    obtain ⟨t, ht, hk⟩ := h1.tpd
    refine seqI fun K1 k1 => ?_
    walk_at "rd"
    refine ⟨_, h0, _, rfl, t, ht, _, hk, ?_⟩
    cases hT : isTp r.1 with
    | false =>
      rw [if_pos (by decide)]
      refine q true H ⟨fun _ z => ?_, fun _ => rfl⟩ (Same.refl H)
      have z := z.1
      cases e2 : r.1 <;> rw [e2] at z hT <;> first | exact z.elim | cases hT
    | true =>
    rw [if_neg (by decide)]
    refine k1 _ _ ?_
    clear k1
    obtain ⟨ds, e2⟩ : ∃ ds, r.1 = .tuple ds := by
      cases e2 : r.1 with
      | tuple ds => exact ⟨ds, rfl⟩
      | _ => rw [e2] at hT; cases hT
    rw [e2] at h1
    cases h1 with
    | tup hmm hds =>
    rename_i mm xs
    have bad : ∀ H', ¬ AreM (.tuple ds) → Same H H' → Q (.bl true) H' := fun H' no s => q true H' ⟨fun _ z => no (by rw [← e2]; exact z.1), fun _ => rfl⟩ s
    refine seqI fun K1 k1 => ?_
    walk_at "rd"
    refine k1 _ _ ?_
    clear k1
    refine seqI fun K0 k0 => ?_
    refine .inr ⟨_, rfl, a, 0, _, rfl, rfl, h0, _, rfl, mm, rfl, ⟨_, .inl (.inl hmm)⟩, for_tup (K := K) (a := mm) (xs := xs) (fun i σ H' => ∃ (last : Int) (v3 : Option V), σ = [some (.ref a), some (.int (n : Nat)), some (.int last), v3, none] ∧ Same H H' ∧ (∀ j d, j < i → ds[j]? = some d → isI 0 31 d = true) ∧ (∀ j, j + 1 < i → (ds.map valI).getD j 0 < (ds.map valI).getD (j + 1) 0) ∧ -1 ≤ last ∧ ((i = 0 ∧ last = -1) ∨ ∃ d, i ≠ 0 ∧ ds[i - 1]? = some d ∧ last = valI d)) ⟨-1, none, rfl, Same.refl H, fun j d h => by omega, fun j h => by omega, by decide, .inl ⟨rfl, rfl⟩⟩ (fun i σ H' _ ⟨_, _, _, s, _⟩ => .inl (.inl (s _ _ hmm))) ?_ ?_⟩
    · rintro i y σ H' hy ⟨last, v3, rfl, s1, hI, hA, hl, hlast⟩
      obtain ⟨di, hdi, hy2⟩ := hds.get hy
      refine seqI fun K1 k1 => ?_
      refine ifI fun A2 B2 ka kb => ?_
      walk_at "rd"
      refine ⟨y, di, rfl, hy2.same s1, _, rfl, ?_⟩
      have no : ¬ AreM (.tuple ds) → A2 H' := fun no => ka _ (by
        walk_at "rd"
        exact bad H' no s1)
      cases eI : isIn di with
      | false =>
        rw [if_pos (by decide)]
        exact no (areM_ne hdi (isIn_isI eI 0 31))
      | true =>
      rw [if_neg (by decide)]
      obtain ⟨m, rfl⟩ : ∃ m, di = .int m := by
        cases di with
        | int m => exact ⟨m, rfl⟩
        | _ => cases eI
      cases hy2
      refine ⟨m, rfl, ite_i (fun g => no ?_) (fun g => ⟨m, rfl, ite_i (fun g2 => no (areM_ne hdi (decide_eq_false (by omega)))) (fun g2 => kb _ (k1 _ _ ?_))⟩)⟩
      · rcases hlast with ⟨i0, el⟩ | ⟨d', i0, hd', el⟩
        · exact areM_ne hdi (decide_eq_false (by omega))
        · refine areM_ge hd' (by rw [show i - 1 + 1 = i by omega]; exact hdi) ?_
          show m ≤ valI d'
          omega
      · walk_at "rd"
        have gi : isI 0 31 (.int m) = true := decide_eq_true (by omega)
        refine ⟨s1, fun j d hj hd => ?_, fun j hj => ?_, by omega, ⟨Nat.succ_ne_zero _, _, by rw [Nat.add_sub_cancel]; exact hdi, rfl⟩⟩
        · by_cases ej : j = i
          · rw [ej, hdi] at hd
            cases hd
            exact gi
          · exact hI j d (by omega) hd
        · by_cases ej : j + 1 = i
          · rcases hlast with ⟨i0, el⟩ | ⟨d', i0, hd', el⟩
            · omega
            · rw [show i - 1 = j by omega] at hd'
              rw [ej, List.getD_eq_getElem?_getD, List.getD_eq_getElem?_getD, List.getElem?_map, List.getElem?_map, hd', hdi]
              show valI d' < m
              omega
          · exact hA j (by omega)
    rintro σ H1 ⟨last, w3, rfl, s1, hI, hA, hl, hlast⟩
    refine k0 _ _ ?_
    clear k0
    have am : AreM r.1 := by
      rw [e2]
      refine ⟨fun d hd => ?_, pw_consec fun j hj => hA j (by rw [List.length_map] at hj; rw [hds.len]; exact hj)⟩
      obtain ⟨j, hj⟩ := List.getElem?_of_mem hd
      exact hI j d (by have := (List.getElem?_eq_some_iff.mp hj).1; rw [hds.len]; exact this) hj
    clear hI hA hl hlast bad
    refine seqI fun K1 k1 => ?_
    refine ⟨_, rfl, 1, rfl, a, _, rfl, .inl (.inl (s1 _ _ h0)), fun z => absurd z.1 (show ¬ HT.sIx 4 0 (some 1) = 0 by decide), fun _ tq ntq => ⟨tq, rfl, ⟨_, .inl (.inl upd_same)⟩, ?_⟩⟩
    rw [show (1 : Int) = ((1 : Nat) : Int) from rfl, cutV_lo, show [V.ref mm, v1, v2, v3].drop 1 = [v1, v2, v3] from rfl]
    have s2 := s1.trans (same_new (o := .tup [v1, v2, v3]) ntq)
    have htq : (upd H1 tq (.tup [v1, v2, v3])) tq = some (.tup [v1, v2, v3]) := upd_same
    generalize upd H1 tq (.tup [v1, v2, v3]) = H2 at s2 htq
    have d3 : DvAll H2 [v1, v2, v3] [r.2.1, r.2.2.1, r.2.2.2] := .cons (h2.same s2) (.cons (h3.same s2) (.cons (h4.same s2) .nil))
    refine for_tup (K := K) (a := tq) (xs := [v1, v2, v3]) (fun i σ H' => ∃ v4 : Option V, σ = [some (.ref a), some (.int (n : Nat)), some (.int last), w3, v4] ∧ Same H2 H' ∧ ∀ j d, j < i → [r.2.1, r.2.2.1, r.2.2.2][j]? = some d → isI 0 n d = true) ⟨none, rfl, Same.refl _, fun j d h => by omega⟩ (fun i σ H' _ ⟨_, _, s, _⟩ => .inl (.inl (s _ _ htq))) ?_ ?_
    · rintro i y σ H' hy ⟨v4, rfl, s3, pre⟩
      obtain ⟨di, hdi, hy2⟩ := d3.get hy
      have bad : isI 0 n di = false → Q (.bl true) H' := fun e => q true H' ⟨fun _ z => (by
        have hm := List.mem_of_getElem? hdi
        simp only [List.mem_cons, List.not_mem_nil, or_false] at hm
        rcases hm with rfl | rfl | rfl
        · rw [z.2.1] at e; cases e
        · rw [z.2.2.1] at e; cases e
        · rw [z.2.2.2] at e; cases e) , fun _ => rfl⟩ (s2.trans s3)
      refine ifI fun A2 B2 ka kb => ?_
      walk_at "rd"
      refine ⟨y, di, rfl, hy2.same s3, _, rfl, ?_⟩
      have no : isI 0 n di = false → A2 H' := fun e => ka _ (by
        walk_at "rd"
        exact bad e)
      cases eI : isIn di with
      | false =>
        rw [if_pos (by decide)]
        exact no (isIn_isI eI 0 n)
      | true =>
      rw [if_neg (by decide)]
      obtain ⟨m, rfl⟩ : ∃ m, di = .int m := by
        cases di with
        | int m => exact ⟨m, rfl⟩
        | _ => cases eI
      cases hy2
      refine ⟨m, rfl, ite_i (fun g => no (decide_eq_false (by omega))) (fun g => ⟨m, rfl, ite_i (fun g2 => no (decide_eq_false (by omega))) (fun g2 => kb _ ?_)⟩)⟩
      walk_at "rd"
      refine ⟨s3, fun j d hj hd => ?_⟩
      by_cases ej : j = i
      · rw [ej, hdi] at hd
        cases hd
        exact decide_eq_true (by omega)
      · exact pre j d (by omega) hd
    rintro σ H' ⟨v4, rfl, s3, pre⟩
    refine k1 _ _ ?_
    walk_at "rd"
    exact q false H' ⟨fun z => Bool.noConfusion z, fun z => absurd ⟨am, pre 0 _ (show 0 < 3 by decide) rfl, pre 1 _ (show 1 < 3 by decide) rfl, pre 2 _ (show 2 < 3 by decide) rfl⟩ z⟩ (s2.trans s3)
end
section
variable {P : Program} {w : World} {K : PySem.W.Frag} {mg : Str → Option Value} {base : Heap}
theorem ok__law_right_among (S : Src K mg "_law_right_among" s__law_right_among) (T : Tx P K mg)   : Cal P w K mg base CX0 1 "_law_right_among" ["_law_told", "_law_thing"] spLAmong := by
  refine S.cal sc__law_right_among bn__law_right_among (fun vs H Q E h => ?_) (fun f cdv A outer s H vs Q E hr h => ?_)
  · first | (obtain ⟨rfl, _⟩ := h; rfl) | (obtain ⟨_, rfl, _⟩ := h; rfl) | (obtain ⟨_, _, rfl, _⟩ := h; rfl) | (obtain ⟨_, _, _, rfl, _⟩ := h; rfl) | (obtain ⟨_, _, _, _, rfl, _⟩ := h; rfl) | (obtain ⟨_, _, _, _, _, rfl, _⟩ := h; rfl) | (obtain ⟨_, _, _, _, _, _, rfl, _⟩ := h; rfl) | (obtain ⟨_, _, _, _, _, _, _, rfl, _⟩ := h; rfl) | (obtain ⟨_, _, _, _, _, _, _, _, rfl, _⟩ := h; rfl) | (obtain ⟨_, _, _, _, _, _, _, _, _, rfl, _⟩ := h; rfl) | (obtain ⟨_, _, _, _, _, _, _, _, _, _, rfl, _⟩ := h; rfl) | (obtain ⟨_, _, _, _, _, _, _, _, _, _, _, rfl, _⟩ := h; rfl) | (obtain ⟨_, _, _, _, _, _, _, _, _, _, _, _, rfl, _⟩ := h; rfl)
  · skip
    refine ⟨_, (pss_cons (ps_set (i := 2) sc__law_right_among.nd rfl (Or.inl rfl) (Fx.pe_cB Fx.len_L T.b_len (by decide +kernel) (Fx.pa_c (pv 0) pa_nil)))
        (pss_cons (ps_set (i := 3) sc__law_right_among.nd rfl (Or.inl rfl) (pe_ix Fx.ix_L (pv 0) (pe_op op_sub (pv 1) pe_int) (fun _ _ => rfl)))
        (pss_cons (ps_set (i := 4) sc__law_right_among.nd rfl (Or.inl rfl) (pe_ix Fx.ix_T (pv 3) pe_int (fun _ _ => rfl)))
        (pss_cons (ps_for PassesOwn.never rfl (pi_range1 rfl T.b_range (Fx.pa_c (pv 2) pa_nil)) (pg_name (i := 5) sc__law_right_among.nd rfl (Or.inl rfl)) (pss_one (ps_if (pt_cmpR op_ne (pv 4) pe_int (nomark _)) (pss_one (ps_set (i := 4) sc__law_right_among.nd rfl (Or.inl rfl) (pe_ix Fx.ix_T (pe_ix Fx.ix_L (pv 0) (pe_op op_sub (pv 4) pe_int) (fun _ _ => rfl)) pe_int (fun _ _ => rfl)))) pss_nil)))
        (pss_cons (ps_if (PW.pt (pw_or (pt_cmpR op_ne (pv 4) pe_int (nomark _)) (pw_or1 (PW.pt (pw_and (pt_cmpR op_eq (pe_ix Fx.ix_T (pv 3) pe_int (fun _ _ => rfl)) pe_int (nomark _)) (pw_and1 (pt_cmpR op_ne (pe_ix Fx.ix_T (pv 3) pe_int (fun _ _ => rfl)) pe_int (nomark _)))))))) (pss_one (ps_ret pe_bl)) pss_nil)
        (pss_cons (ps_set (i := 6) sc__law_right_among.nd rfl (Or.inl rfl) (pe_lst pa_nil))
        (pss_cons (ps_set (i := 4) sc__law_right_among.nd rfl (Or.inl rfl) (pe_ix Fx.ix_T (pv 3) pe_int (fun _ _ => rfl)))
        (pss_cons (ps_for PassesOwn.never rfl (pi_range1 rfl T.b_range (Fx.pa_c (pe_op op_add (pv 2) pe_int) pa_nil)) (pg_name (i := 5) sc__law_right_among.nd rfl (Or.inl rfl)) (pss_one (ps_if (pt_cmpR op_ne (pv 4) pe_int (nomark _)) (pss_cons (ps_expr (pe_bm PySem.F.plainAttrs_list PySem.F.slot_list_append PySem.F.type_list_append mt_append (pv 6) (Fx.pa_c (pv 4) pa_nil)))
        (pss_one (ps_set (i := 4) sc__law_right_among.nd rfl (Or.inl rfl) (pe_ix Fx.ix_T (pe_ix Fx.ix_L (pv 0) (pe_op op_sub (pv 4) pe_int) (fun _ _ => rfl)) pe_int (fun _ _ => rfl))))) pss_nil)))
        (pss_one (ps_ret (pe_and (pe_cmpR op_eq (pv 4) pe_int (nomark _)) (pe_one (pe_cmpR (Fx.eq_LL hr.units) (Fx.pe_cB cr_sortedI T.b_sorted (by decide +kernel) (Fx.pa_c (pv 6) pa_nil)) (pe_lc (own := [("_law_one", 7)]) rfl sc__law_right_among.nd (pi_range2 rfl T.b_range (Fx.pa_c pe_int (Fx.pa_c (pe_op op_add (pv 2) pe_int) pa_nil))) (blkOk_by (N := N__law_right_among) (sc := defScope s__law_right_among) (by decide +kernel)) (fun _ _ _ _ _ => (pg_name (i := 7) sc__law_right_among.nd rfl (Or.inl rfl))) (fun _ _ _ _ _ => (pts_one (pt_cmpR op_eq (pe_ix Fx.ix_T (pe_ix Fx.ix_L (pv 0) (pe_op op_sub (pv 7) pe_int) (fun _ _ => rfl)) pe_int (fun _ _ => rfl)) (pv 1) (nomark _)))) (fun _ _ _ _ _ => (pv 7))) (nomark _)))))))))))))), ?_⟩
    obtain ⟨p, as, rs, L, j, rfl, R, n60, hj, all, q⟩ := h
    obtain ⟨n, en⟩ : ∃ n, n = rs.length := ⟨_, rfl⟩
    rw [← en] at n60 hj
    obtain ⟨lh, lb⟩ := holB_len rs
    obtain ⟨vh, vb⟩ := holB_le all
    rw [← en] at lh lb vh vb
    have la := R.la
    -- thing z's row
    have row : ∀ z H', 1 ≤ z → z ≤ n → Same H H' → ∃ a v0, atI (as.map V.ref) ((z : Nat) - 1 : Int) = some (.ref a) ∧ H' a = some (.tup [v0, .int ((holB rs).getD z 0 : Nat), .int ((besB rs).getD z 0 : Nat), .int (natD ((rs.map fun r => r.2.2.2).getD (z - 1) .none) : Nat)]) := fun z H' z1 z2 s => by
      have hz : z - 1 < rs.length := by omega
      have hza : z - 1 < as.length := by omega
      obtain ⟨v0, v1, v2, v3, g0, g1, g2, g3, g4⟩ := R.row (z - 1) _ _ (List.getElem?_eq_getElem hza) (List.getElem?_eq_getElem hz)
      have g := all _ (List.getElem_mem hz)
      obtain ⟨rfl, _⟩ := g2.nat g.2.1
      obtain ⟨rfl, _⟩ := g3.nat g.2.2.1
      obtain ⟨rfl, _⟩ := g4.nat g.2.2.2
      obtain ⟨w1, w2, w3⟩ := holB_get (List.getElem?_eq_getElem hz)
      rw [show z - 1 + 1 = z by omega] at w1 w2
      refine ⟨as[z - 1], v0, ?_, ?_⟩
      · rw [show ((z : Nat) : Int) - 1 = ((z - 1 : Nat) : Int) by omega]
        exact atI_get (by rw [List.getElem?_map, List.getElem?_eq_getElem hza]; rfl)
      · rw [w1, w2, w3]
        exact s _ _ g0
    have fle : natD ((rs.map fun r => r.2.2.2).getD j .none) ≤ n := by
      have hz : j < rs.length := by omega
      obtain ⟨_, _, w3⟩ := holB_get (List.getElem?_eq_getElem hz)
      rw [w3, en]
      exact natD_le (all _ (List.getElem_mem hz)).2.2.2
    refine seqI fun K1 k1 => ?_
    walk_at "rd"
    refine ⟨_, R.h, k1 _ _ ?_⟩
    clear k1
    rw [show (((as.map V.ref).length : Nat) : Int) = (n : Nat) by rw [List.length_map, la, en]]
    obtain ⟨ra, w0, ha, hra⟩ := row (j + 1) H (by omega) (by omega) (Same.refl H)
    rw [show j + 1 - 1 = j by omega] at hra
    obtain ⟨f, ef⟩ : ∃ f, f = natD ((rs.map fun r => r.2.2.2).getD j .none) := ⟨_, rfl⟩
    rw [← ef] at hra fle
    have q : ∀ (c : Bool) H', (c = true ↔ PartsRow (holB rs) (besB rs) n f (j + 1) ∧ itH (holB rs) (n + 1) (j + 1) = 0 ∧ ((holB rs).getD (j + 1) 0 = 0 → (besB rs).getD (j + 1) 0 = 0)) → Same H H' → Q (.bl c) H' := fun c H' hc s => q c H' (by
      unfold Among
      rw [← en, ← ef]
      exact hc) s
    refine seqI fun K1 k1 => ?_
    walk_at "rd"
    refine ⟨_, R.h, _, ha, k1 _ _ ?_⟩
    clear k1
    refine seqI fun K1 k1 => ?_
    walk_at "rd"
    refine ⟨_, hra, _, rfl, k1 _ _ ?_⟩
    clear k1
    refine seqI fun K0 k0 => ?_
    refine forI fun R0 hR => ?_
    walk_at "rd"
    refine ⟨by omega, by omega, hR _ _ ?_⟩
    clear hR
    rw [Int.toNat_natCast]
    refine for_range (lo := 0) (n := n) (fun k σ H' => ∃ v5 : Option V, σ = [some (.ref p), some (.int ((j + 1 : Nat) : Int)), some (.int (n : Nat)), some (.ref ra), some (.int (itH (holB rs) (k + 1) (j + 1) : Nat)), v5, none, none] ∧ H' = H) ⟨none, rfl, rfl⟩ ?_ ?_
    · rintro k σ H' hk ⟨v5, rfl, rfl⟩
      have hle := itH_le vh (k + 1) (j + 1) (by omega)
      refine ifI fun A2 B2 ka kb => ?_
      walk_at "rd"
      by_cases z : itH (holB rs) (k + 1) (j + 1) = 0
      · rw [if_pos (by omega)]
        refine kb _ ?_
        walk_at "rd"
        rw [itH_add (k + 1) 1, z]
        rfl
      · rw [if_neg (by omega)]
        refine ka _ ?_
        walk_at "rd"
        obtain ⟨a2, u0, g1, g2⟩ := row (itH (holB rs) (k + 1) (j + 1)) H' (by omega) hle (Same.refl _)
        refine ⟨_, R.h, _, g1, _, rfl, _, g2, _, rfl, ?_⟩
        rw [itH_add (k + 1) 1]
        rfl
    rintro σ H' ⟨v5, rfl, rfl⟩
    refine k0 _ _ ?_
    clear k0
    refine seqI fun K0 k0 => ?_
    refine ifI fun A2 B2 ka kb => ?_
    walk_at "rd"
    by_cases z1 : itH (holB rs) (n + 1) (j + 1) = 0
    · rw [if_pos (by omega)]
      refine ⟨_, hra, _, rfl, rfl, ?_⟩
      have go : ((holB rs).getD (j + 1) 0 = 0 → (besB rs).getD (j + 1) 0 = 0) → K0 [some (.ref p), some (.int ((j + 1 : Nat) : Int)), some (.int (n : Nat)), some (.ref ra), some (.int (itH (holB rs) (n + 1) (j + 1) : Nat)), v5, none, none] H' := by
        intro z2
        refine k0 _ _ ?_
        clear k0 ka kb
        refine seqI fun K1 k1 => ?_
        walk_at "rd"
        refine ⟨Nat.zero_le _, fun q0 n0 => k1 _ _ ?_⟩
        clear k1
        have s0 := same_new (o := .lst []) n0
        refine seqI fun K1 k1 => ?_
        walk_at "rd"
        refine ⟨_, s0 _ _ hra, _, rfl, k1 _ _ ?_⟩
        clear k1
        refine seqI fun K0 k0 => ?_
        refine forI fun R0 hR => ?_
        walk_at "rd"
        refine ⟨by omega, by omega, hR _ _ ?_⟩
        clear hR
        rw [show ((n : Int) + 1).toNat = n + 1 by omega]
        refine for_range (lo := 0) (n := n + 1) (fun k σ H2 => ∃ (v5 : Option V) (l : List Nat) (g : Nat), σ = [some (.ref p), some (.int ((j + 1 : Nat) : Int)), some (.int (n : Nat)), some (.ref ra), some (.int (g : Nat)), v5, some (.ref q0), none] ∧ Seg (besB rs) f l g ∧ g ≤ n ∧ (∀ z ∈ l, 1 ≤ z ∧ z ≤ n) ∧ l.length ≤ k ∧ (l.length = k ∨ g = 0) ∧ H2 = upd H' q0 (.lst (ni l))) ⟨v5, [], f, rfl, rfl, fle, fun z hz => (by cases hz), Nat.le_refl _, .inl rfl, rfl⟩ ?_ ?_
        · rintro k σ H2 hk ⟨v5, l, g, rfl, sg, hg, hl, lk, lg, rfl⟩
          refine ifI fun A2 B2 ka kb => ?_
          walk_at "rd"
          by_cases z : g = 0
          · rw [if_pos (by omega)]
            refine kb _ ?_
            walk_at "rd"
            exact ⟨_, l, g, rfl, rfl, sg, hg, hl, by omega, .inr z, rfl⟩
          · rw [if_neg (by omega)]
            refine ka _ ?_
            walk_at "rd"
            have sr := same_new (o := .lst (ni l ++ [.int (g : Nat)])) n0
            obtain ⟨a2, u0, g1, g2⟩ := row g H' (by omega) hg (Same.refl _)
            refine ⟨tyL upd_same, ?_⟩
            walk_at "rd"
            rw [upd_upd]
            have lk2 : l.length = k := lg.resolve_right z
            refine ⟨by rw [ni_len]; exact Nat.lt_of_lt_of_le (by omega : _ < 100) (by decide), _, sr _ _ R.h, _, g1, _, rfl, _, sr _ _ g2, _, rfl, _, l ++ [g], _, rfl, rfl, seg_snoc sg z, getD_le vb, fun y hy => (List.mem_append.mp hy).elim (hl y) fun h => by rw [List.mem_singleton.mp h]; omega, by rw [List.length_append, List.length_singleton]; omega, .inl (by rw [List.length_append, List.length_singleton]; omega), by rw [ni_app]; rfl⟩
        rintro σ H2 ⟨v5, l, g, rfl, sg, hg, hl, lk, lg, rfl⟩
        refine k0 _ _ ?_
        clear k0
        walk_at "rd"
        have s2 : Same H' (upd H' q0 (.lst (ni l))) := same_new n0
        by_cases g0 : g = 0
        · rw [if_pos (by omega)]
          rw [g0] at sg
          refine ⟨q0, l.map fun n => ((n : Nat) : Int), rfl, .inl (.inl (by rw [upd_same, ni_int])), fun ns ps pm pw nps => ?_⟩
          have ev : ns.map V.int = ni (srtN l) := by
            rw [srt_int pm pw, ← ni_int]
          rw [ev]
          have s3 := s2.trans (same_new (o := .lst (ni (srtN l))) nps)
          have hp3 : (upd (upd H' q0 (.lst (ni l))) ps (.lst (ni (srtN l)))) ps = some (.lst (ni (srtN l))) := upd_same
          generalize upd (upd H' q0 (.lst (ni l))) ps (.lst (ni (srtN l))) = H3 at s3 hp3
          generalize hte : tVar 7 = te
          generalize hgg : gName 7 = gg
          generalize htt : tTest (tOp rEq (tOp rIxTt (tOp rIxLt (tVar 0) (tOp (rI0 fun i j => V.int (i - j)) te (tC (V.int 1)))) (tC (V.int 1))) (tVar 1)) = tt
          unfold tLc
          walk_at "rd"
          refine ⟨by decide, by decide, by omega, by omega, fun D nD => ?_⟩
          rw [show ((n : Int) + 1 - 1).toNat = n by omega]
          refine lc_range (lo := 1) (n := n) (g := gg) (tt := tt) (te := te) (vs := [7]) (σ := [some (.ref p), some (.int ((j + 1 : Nat) : Int)), some (.int (n : Nat)), some (.ref ra), some (.int (g : Nat)), v5, some (.ref q0), none]) (fun i H' => H' D = some (.lst (ni ((List.range' 1 i).filter fun z => decide ((holB rs).getD z 0 = j + 1)))) ∧ Same H3 H') ⟨upd_same, same_new nD⟩ ?_ ?_
          · rintro i H4 hi ⟨hD, s4⟩
            have ei : (1 : Int) + (i : Nat) = ((i + 1 : Nat) : Int) := by omega
            obtain ⟨a2, u0, g1, g2⟩ := row (i + 1) H4 (by omega) (by omega) (s3.trans s4)
            rw [ei, ← htt, ← hte, ← hgg]
            refine ⟨rfl, ?_⟩
            walk_at "rd"
            refine ⟨_, (s3.trans s4) _ _ R.h, _, g1, _, rfl, _, g2, _, rfl, rfl, ?_⟩
            have lf : ((List.range' 1 i).filter fun z => decide ((holB rs).getD z 0 = j + 1)).length < sizeLine := by
              have := List.length_filter_le (fun z => decide ((holB rs).getD z 0 = j + 1)) (List.range' 1 i)
              rw [List.length_range'] at this
              exact Nat.lt_of_lt_of_le (by omega : _ < 100) (by decide)
            rw [List.range'_concat, List.filter_append, show 1 + 1 * i = i + 1 by omega]
            by_cases g3 : (holB rs).getD (i + 1) 0 = j + 1
            · rw [if_pos (by rw [g3]), List.filter_cons_of_pos (by simpa using g3)]
              refine ⟨_, hD, by rw [ni_len]; exact lf, ?_, Same.put s4 nD⟩
              rw [ni_app]
              rfl
            · rw [if_neg (fun z => g3 (by have := V.int.inj z; omega)), List.filter_cons_of_neg (by simpa using g3)]
              rw [List.filter_nil, List.append_nil]
              exact ⟨hD, s4⟩
          rintro H4 ⟨hD, s4⟩
          refine ⟨_, s4 _ _ hp3, _, hD, allF_ni _, allF_ni _, ?_⟩
          refine q _ H4 ⟨fun z => ⟨⟨l, ?_⟩, z1, z2⟩, fun ⟨⟨P, h1, h2, h3⟩, _⟩ => decide_eq_true ?_⟩ (s3.trans s4)
          · have z := ni_inj.mp (of_decide_eq_true z)
            have pl : l.Perm ((List.range' 1 n).filter fun z => decide ((holB rs).getD z 0 = j + 1)) := by
              rw [← z]
              exact (srtN_perm l).symm
            refine ⟨pl.nodup_iff.mpr ((List.nodup_range' ..).filter _), fun y => ?_, ?_⟩
            · rw [pl.mem_iff, List.mem_filter, List.mem_range'_1, decide_eq_true_eq]
              exact ⟨fun z => ⟨z.1.1, by omega, z.2⟩, fun z => ⟨⟨z.1, by omega⟩, z.2.2⟩⟩
            · have := seg_chain sg (r := []) rfl
              rw [List.append_nil] at this
              exact this
          · obtain ⟨r, e, c⟩ := seg_split sg h3
            rw [chain_zero c, List.append_nil] at e
            subst e
            refine ni_inj.mpr (srt_uniq (srtN_pw _) ?_ ((srtN_perm _).trans ?_))
            · exact (List.pairwise_le_range' (s := 1) (n := n)).filter _
            · exact (List.perm_ext_iff_of_nodup h1 ((List.nodup_range' ..).filter _)).mpr fun y => by
                rw [h2 y, List.mem_filter, List.mem_range'_1, decide_eq_true_eq]
                exact ⟨fun z => ⟨⟨z.1, by omega⟩, z.2.2⟩, fun z => ⟨z.1.1, by omega, z.2⟩⟩
        · rw [if_neg (by omega)]
          refine q false _ ⟨fun z => Bool.noConfusion z, fun ⟨⟨P, h1, h2, h3⟩, _⟩ => ?_⟩ s2
          obtain ⟨r, e, c⟩ := seg_split sg h3
          have := nodup_le (a := P) (b := List.range' 1 n) h1 fun z hz => by have := (h2 z).mp hz; exact List.mem_range'_1.mpr ⟨this.1, by omega⟩
          rw [e, List.length_append, List.length_range', lg.resolve_right g0] at this
          omega
      by_cases z2 : (holB rs).getD (j + 1) 0 = 0
      · rw [if_pos (by rw [z2]; rfl)]
        refine ⟨_, hra, _, rfl, rfl, ?_⟩
        by_cases z3 : (besB rs).getD (j + 1) 0 = 0
        · rw [if_pos (by rw [z3]; rfl)]
          exact kb _ (go fun _ => z3)
        · rw [if_neg (fun z => z3 (by have := V.int.inj z; omega))]
          refine ka _ ?_
          walk_at "rd"
          exact q false H' ⟨fun z => Bool.noConfusion z, fun z => absurd (z.2.2 z2) z3⟩ (Same.refl _)
      · rw [if_neg (fun z => z2 (by have := V.int.inj z; omega))]
        exact kb _ (go fun h => absurd h z2)
    · rw [if_neg (by omega)]
      refine ka _ ?_
      walk_at "rd"
      exact q false H' ⟨fun z => Bool.noConfusion z, fun z => absurd z.2.1 z1⟩ (Same.refl _)
end
section
variable {P : Program} {w : World} {K : PySem.W.Frag} {mg : Str → Option Value} {base : Heap}
theorem ok__law_first_bad (S : Src K mg "_law_first_bad" s__law_first_bad) (T : Tx P K mg) (C__law_bad_row : Cal P w K mg base CX0 2 "_law_bad_row" ["_law_row", "_law_many"] spLBadRow) (C__law_right_among : Cal P w K mg base CX0 1 "_law_right_among" ["_law_told", "_law_thing"] spLAmong)  : Cal P w K mg base CX0 3 "_law_first_bad" ["_law_told"] spLFirst := by
  refine S.cal sc__law_first_bad bn__law_first_bad (fun vs H Q E h => ?_) (fun f cdv A outer s H vs Q E hr h => ?_)
  · first | (obtain ⟨rfl, _⟩ := h; rfl) | (obtain ⟨_, rfl, _⟩ := h; rfl) | (obtain ⟨_, _, rfl, _⟩ := h; rfl) | (obtain ⟨_, _, _, rfl, _⟩ := h; rfl) | (obtain ⟨_, _, _, _, rfl, _⟩ := h; rfl) | (obtain ⟨_, _, _, _, _, rfl, _⟩ := h; rfl) | (obtain ⟨_, _, _, _, _, _, rfl, _⟩ := h; rfl) | (obtain ⟨_, _, _, _, _, _, _, rfl, _⟩ := h; rfl) | (obtain ⟨_, _, _, _, _, _, _, _, rfl, _⟩ := h; rfl) | (obtain ⟨_, _, _, _, _, _, _, _, _, rfl, _⟩ := h; rfl) | (obtain ⟨_, _, _, _, _, _, _, _, _, _, rfl, _⟩ := h; rfl) | (obtain ⟨_, _, _, _, _, _, _, _, _, _, _, rfl, _⟩ := h; rfl) | (obtain ⟨_, _, _, _, _, _, _, _, _, _, _, _, rfl, _⟩ := h; rfl)
  · skip
    refine ⟨_, (pss_cons (ps_set (i := 1) sc__law_first_bad.nd rfl (Or.inl rfl) (Fx.pe_cB Fx.len_L T.b_len (by decide +kernel) (Fx.pa_c (pv 0) pa_nil)))
        (pss_cons (ps_for PassesOwn.never rfl (pi_range2 rfl T.b_range (Fx.pa_c pe_int (Fx.pa_c (pe_op op_add (pv 1) pe_int) pa_nil))) (pg_name (i := 2) sc__law_first_bad.nd rfl (Or.inl rfl)) (pss_one (ps_if (pt_val (Fx.pe_cal C__law_bad_row (hr.mono (by decide)) pass0 (Fx.pa_c (pe_ix Fx.ix_L (pv 0) (pe_op op_sub (pv 2) pe_int) (fun _ _ => rfl)) (Fx.pa_c (pv 1) pa_nil)))) (pss_one (ps_ret (pv 2))) pss_nil)))
        (pss_cons (ps_for PassesOwn.never rfl (pi_range2 rfl T.b_range (Fx.pa_c pe_int (Fx.pa_c (pe_op op_add (pv 1) pe_int) pa_nil))) (pg_name (i := 2) sc__law_first_bad.nd rfl (Or.inl rfl)) (pss_one (ps_if (pt_not (pt_val (Fx.pe_cal C__law_right_among (hr.mono (by decide)) pass0 (Fx.pa_c (pv 0) (Fx.pa_c (pv 2) pa_nil))))) (pss_one (ps_ret (pv 2))) pss_nil)))
        (pss_one (ps_ret pe_int))))), ?_⟩
    obtain ⟨p, as, rs, L, rfl, R, n60, q⟩ := h
    refine seqI fun K1 k1 => ?_
    walk_at "rd"
    refine ⟨_, R.h, k1 _ _ ?_⟩
    clear k1
    obtain ⟨n, en⟩ : ∃ n, n = rs.length := ⟨_, rfl⟩
    rw [show (((as.map V.ref).length : Nat) : Int) = (n : Nat) by rw [List.length_map, R.la, en]]
    have la := R.la
    refine seqI fun K0 k0 => ?_
    refine forI fun R0 hR => ?_
    walk_at "rd"
    refine ⟨by decide, by decide, by omega, by omega, hR _ _ ?_⟩
    clear hR
    rw [show ((n : Int) + 1 - 1).toNat = n by omega]
    refine for_range (lo := 1) (n := n) (fun i σ H' => ∃ v2 : Option V, σ = [some (.ref p), some (.int (n : Nat)), v2] ∧ Same H H' ∧ ∀ j q, j < i → rs[j]? = some q → RowG rs.length q) ⟨none, rfl, Same.refl H, fun j q h => by omega⟩ ?_ ?_
    · rintro i σ H' hi ⟨v2, rfl, s1, pre⟩
      have hj : i < rs.length := by omega
      have hja : i < as.length := by omega
      have ei : (1 : Int) + (i : Nat) - 1 = (i : Nat) := by omega
      have ei2 : (1 : Int) + (i : Nat) = ((i + 1 : Nat) : Int) := by omega
      walk_at "rd"
      rw [ei]
      refine ⟨_, s1 _ _ R.h, _, atI_get (i := i) (by rw [List.getElem?_map, List.getElem?_eq_getElem hja]; rfl), as[i], rs[i], n, rfl, (R.row i _ _ (List.getElem?_eq_getElem hja) (List.getElem?_eq_getElem hj)).same s1, fun c H2 hc s2 => ⟨_, rfl, ?_⟩⟩
      rw [en] at hc
      cases c with
      | true =>
        rw [if_pos rfl, ei2]
        exact q (i + 1) H2 (.inr ⟨i, rs[i], List.getElem?_eq_getElem hj, rfl, hc.mp rfl, pre⟩) (s1.trans s2)
      | false =>
        rw [if_neg (by decide)]
        refine ⟨s1.trans s2, fun j z hj2 hz => ?_⟩
        by_cases e : j = i
        · subst e
          rw [List.getElem?_eq_getElem hj] at hz
          cases hz
          exact Classical.byContradiction fun no => Bool.noConfusion (hc.mpr no)
        · exact pre j z (by omega) hz
    rintro σ H1 ⟨v2, rfl, s1, pre⟩
    refine k0 _ _ ?_
    clear k0
    have all : ∀ r ∈ rs, RowG rs.length r := fun r hr => by
      obtain ⟨j, hj⟩ := List.getElem?_of_mem hr
      exact pre j r (by rw [en]; exact (List.getElem?_eq_some_iff.mp hj).1) hj
    refine seqI fun K0 k0 => ?_
    refine forI fun R0 hR => ?_
    walk_at "rd"
    refine ⟨by decide, by decide, by omega, by omega, hR _ _ ?_⟩
    clear hR
    rw [show ((n : Int) + 1 - 1).toNat = n by omega]
    refine for_range (lo := 1) (n := n) (fun i σ H' => ∃ v2 : Option V, σ = [some (.ref p), some (.int (n : Nat)), v2] ∧ Same H H' ∧ ∀ j < i, Among rs j) ⟨v2, rfl, s1, fun j h => by omega⟩ ?_ ?_
    · clear s1
      rintro i σ H' hi ⟨v2, rfl, s1, pre2⟩
      have ei2 : (1 : Int) + (i : Nat) = ((i + 1 : Nat) : Int) := by omega
      walk_at "rd"
      rw [ei2]
      refine ⟨p, as, rs, L, i, rfl, R.same s1, n60, by omega, all, fun c H2 hc s2 => ⟨_, rfl, ?_⟩⟩
      cases c with
      | false =>
        rw [if_pos (by decide)]
        exact q (i + 1) H2 (.inl ⟨all, .inr ⟨i, by omega, rfl, fun z => Bool.noConfusion (hc.mpr z), pre2⟩⟩) (s1.trans s2)
      | true =>
        rw [if_neg (by decide)]
        refine ⟨s1.trans s2, fun j hj => ?_⟩
        by_cases e : j = i
        · rw [e]
          exact hc.mp rfl
        · exact pre2 j (by omega)
    rintro σ H2 ⟨v2, rfl, s2, pre2⟩
    refine k0 _ _ ?_
    walk_at "rd"
    exact q 0 H2 (.inl ⟨all, .inl ⟨rfl, fun j hj => pre2 j (by omega)⟩⟩) s2
end
section
variable {P : Program} {w : World} {K : PySem.W.Frag} {mg : Str → Option Value} {base : Heap}
theorem ok__law_odd (S : Src K mg "_law_odd" s__law_odd) (T : Tx P K mg) (C__law_pick : Cal P w K mg base CX0 1 "_law_pick" ["_law_bag_here", "_law_many"] spPick) (C__law_choice : Cal P w K mg base CX0 2 "_law_choice" ["_law_bag_here", "_law_things"] spChoiceL)  : Cal P w K mg base CX0 3 "_law_odd" ["_law_bag_here", "_law_many"] spLOddG := by
  refine S.cal sc__law_odd bn__law_odd (fun vs H Q E h => ?_) (fun f cdv A outer s H vs Q E hr h => ?_)
  · first | (obtain ⟨rfl, _⟩ := h; rfl) | (obtain ⟨_, rfl, _⟩ := h; rfl) | (obtain ⟨_, _, rfl, _⟩ := h; rfl) | (obtain ⟨_, _, _, rfl, _⟩ := h; rfl) | (obtain ⟨_, _, _, _, rfl, _⟩ := h; rfl) | (obtain ⟨_, _, _, _, _, rfl, _⟩ := h; rfl) | (obtain ⟨_, _, _, _, _, _, rfl, _⟩ := h; rfl) | (obtain ⟨_, _, _, _, _, _, _, rfl, _⟩ := h; rfl) | (obtain ⟨_, _, _, _, _, _, _, _, rfl, _⟩ := h; rfl) | (obtain ⟨_, _, _, _, _, _, _, _, _, rfl, _⟩ := h; rfl) | (obtain ⟨_, _, _, _, _, _, _, _, _, _, rfl, _⟩ := h; rfl) | (obtain ⟨_, _, _, _, _, _, _, _, _, _, _, rfl, _⟩ := h; rfl) | (obtain ⟨_, _, _, _, _, _, _, _, _, _, _, _, rfl, _⟩ := h; rfl)
  · skip
    refine ⟨_, (pss_one (ps_ret (Fx.pe_cal C__law_choice (hr.mono (by decide)) pass0 (Fx.pa_c (pv 0) (Fx.pa_c (pe_lst (Fx.pa_c (pe_un un_neg pe_int) (Fx.pa_c (pe_op op_add (pv 1) pe_int) (Fx.pa_c (pe_op op_add (pe_op op_add (pv 1) pe_int) (Fx.pe_cal C__law_pick (hr.mono (by decide)) pass0 (Fx.pa_c (pv 0) (Fx.pa_c pe_int pa_nil)))) (Fx.pa_c pe_bl (Fx.pa_c pe_bl (Fx.pa_c pe_non (Fx.pa_c pe_str (Fx.pa_c (pe_tup (Fx.pa_c pe_int pa_nil)) (Fx.pa_c (pe_op op_pow pe_int pe_int) (Fx.pa_c (pe_un un_neg (pe_op op_pow pe_int pe_int)) pa_nil))))))))))) pa_nil))))), ?_⟩
    obtain ⟨b, n, rfl, hB, n60, q⟩ := h
    walk_at "rd"
    refine ⟨b, _, rfl, hB, by decide, by decide, fun m H1 m0 m1 kp1 => ⟨m, rfl, by decide, fun tq ntq => ⟨⟨by decide, by decide, by decide⟩, ⟨by decide, by decide, by decide⟩, by decide, fun lq nlq => ?_⟩⟩⟩
    have s2 := same_new (o := .tup [.int 1]) ntq
    have ht := same_new (o := .lst [.int (-1), .int ((n : Int) + 1), .int ((n : Int) + 2 + m), .bl true, .bl false, .non, .str "0", .ref tq, .int (10 ^ Int.toNat 39), .int (-10 ^ Int.toNat 39)]) nlq _ _ (upd_same (H := H1) (a := tq) (o := .tup [.int 1]))
    have kp3 := kp1.then (s2.trans (same_new (o := .lst [.int (-1), .int ((n : Int) + 1), .int ((n : Int) + 2 + m), .bl true, .bl false, .non, .str "0", .ref tq, .int (10 ^ Int.toNat 39), .int (-10 ^ Int.toNat 39)]) nlq))
    refine ⟨b, lq, _, rfl, kp3.bag, upd_same, (show 0 < 10 by decide), (show 10 ≤ 100000 by decide), fun v H4 hv kp4 => ?_⟩
    have kp := kp3.trans kp4
    have ht4 := kp4.tup kp3.bag ht
    simp only [List.mem_cons, List.not_mem_nil, or_false] at hv
    rcases hv with rfl | rfl | rfl | rfl | rfl | rfl | rfl | rfl | rfl | rfl
    · exact q _ _ H4 kp (.int _) (sm_i (by decide) (by decide))
    · exact q _ _ H4 kp (.int _) (sm_i (by omega) (by omega))
    · exact q _ _ H4 kp (.int _) (sm_i (by omega) (by omega))
    · exact q _ _ H4 kp (.bl _) ⟨(sm_bl _).mono (by decide) (by decide), rfl⟩
    · exact q _ _ H4 kp (.bl _) ⟨(sm_bl _).mono (by decide) (by decide), rfl⟩
    · exact q _ _ H4 kp .non ⟨sm_non.mono (by decide) (by decide), rfl⟩
    · exact q _ (.str "0") H4 kp (.str _) ⟨⟨by decide, by decide, by decide, by decide +kernel, by decide +kernel⟩, by decide +kernel⟩
    · exact q _ (.tuple [.int 1]) H4 kp (.tup ht4 (.cons (.int 1) .nil)) ⟨⟨by decide +kernel, by decide, by decide, by decide +kernel, by decide +kernel⟩, rfl⟩
    · exact q _ (.int (10 ^ Int.toNat 39)) H4 kp (.int _) ⟨⟨by decide +kernel, rfl, by decide +kernel, by decide +kernel, by decide +kernel⟩, rfl⟩
    · exact q _ (.int (-10 ^ Int.toNat 39)) H4 kp (.int _) ⟨⟨by decide +kernel, rfl, by decide +kernel, by decide +kernel, by decide +kernel⟩, rfl⟩
end
section
variable {P : Program} {w : World} {K : PySem.W.Frag} {mg : Str → Option Value} {base : Heap}
theorem ok__law_odd_marks (S : Src K mg "_law_odd_marks" s__law_odd_marks) (T : Tx P K mg) (C__law_pick : Cal P w K mg base CX0 1 "_law_pick" ["_law_bag_here", "_law_many"] spPick) (C__law_choice : Cal P w K mg base CX0 2 "_law_choice" ["_law_bag_here", "_law_things"] spChoiceL) (C__law_one_in : Cal P w K mg base CX0 2 "_law_one_in" ["_law_bag_here", "_law_many"] spOneIn)  : Cal P w K mg base CX0 3 "_law_odd_marks" ["_law_bag_here", "_law_marks"] spLOddM := by
  refine S.cal sc__law_odd_marks bn__law_odd_marks (fun vs H Q E h => ?_) (fun f cdv A outer s H vs Q E hr h => ?_)
  · first | (obtain ⟨rfl, _⟩ := h; rfl) | (obtain ⟨_, rfl, _⟩ := h; rfl) | (obtain ⟨_, _, rfl, _⟩ := h; rfl) | (obtain ⟨_, _, _, rfl, _⟩ := h; rfl) | (obtain ⟨_, _, _, _, rfl, _⟩ := h; rfl) | (obtain ⟨_, _, _, _, _, rfl, _⟩ := h; rfl) | (obtain ⟨_, _, _, _, _, _, rfl, _⟩ := h; rfl) | (obtain ⟨_, _, _, _, _, _, _, rfl, _⟩ := h; rfl) | (obtain ⟨_, _, _, _, _, _, _, _, rfl, _⟩ := h; rfl) | (obtain ⟨_, _, _, _, _, _, _, _, _, rfl, _⟩ := h; rfl) | (obtain ⟨_, _, _, _, _, _, _, _, _, _, rfl, _⟩ := h; rfl) | (obtain ⟨_, _, _, _, _, _, _, _, _, _, _, rfl, _⟩ := h; rfl) | (obtain ⟨_, _, _, _, _, _, _, _, _, _, _, _, rfl, _⟩ := h; rfl)
  · skip
    refine ⟨_, (pss_cons (ps_set (i := 2) sc__law_odd_marks.nd rfl (Or.inl rfl) (Fx.pe_cal C__law_pick (hr.mono (by decide)) pass0 (Fx.pa_c (pv 0) (Fx.pa_c pe_int pa_nil))))
        (pss_cons (ps_set (i := 3) sc__law_odd_marks.nd rfl (Or.inl rfl) (Fx.pe_cal C__law_pick (hr.mono (by decide)) pass0 (Fx.pa_c (pv 0) (Fx.pa_c pe_int pa_nil))))
        (pss_cons (ps_if (pt_cmpR op_eq (pv 2) pe_int (nomark _)) (pss_one (ps_ret (Fx.pe_cTy Fx.list_T T.b_list (by decide +kernel) (Fx.pa_c (pv 1) pa_nil)))) pss_nil)
        (pss_cons (ps_if (pt_cmpR op_eq (pv 2) pe_int (nomark _)) (pss_one (ps_ret (pe_op op_catA (pv 1) (pe_tup (Fx.pa_c (Fx.pe_cal C__law_choice (hr.mono (by decide)) pass0 (Fx.pa_c (pv 0) (Fx.pa_c (pe_lst (Fx.pa_c pe_int (Fx.pa_c pe_int (Fx.pa_c (pe_op op_pow pe_int pe_int) pa_nil)))) pa_nil))) pa_nil))))) pss_nil)
        (pss_cons (ps_if (pt_cmpR op_eq (pv 2) pe_int (nomark _)) (pss_one (ps_ret (pe_op op_catA (pe_tup (Fx.pa_c (pe_op op_sub (pe_un un_neg pe_int) (pv 3)) pa_nil)) (pv 1)))) pss_nil)
        (pss_cons (ps_if (pt_cmpR op_eq (pv 2) pe_int (nomark _)) (pss_one (ps_ret (pe_tup (Fx.pa_c (pv 3) (Fx.pa_c (pv 3) pa_nil))))) pss_nil)
        (pss_cons (ps_if (pt_cmpR op_eq (pv 2) pe_int (nomark _)) (pss_one (ps_ret (pe_tup (Fx.pa_c (pv 3) (Fx.pa_c (pe_op op_sub pe_int (pv 3)) pa_nil))))) pss_nil)
        (pss_cons (ps_if (pt_cmpR op_eq (pv 2) pe_int (nomark _)) (pss_one (ps_ret (Fx.pe_cal C__law_choice (hr.mono (by decide)) pass0 (Fx.pa_c (pv 0) (Fx.pa_c (pe_lst (Fx.pa_c (pe_tup (Fx.pa_c pe_bl pa_nil)) (Fx.pa_c (pe_tup (Fx.pa_c pe_bl (Fx.pa_c pe_int pa_nil))) (Fx.pa_c (pe_tup (Fx.pa_c pe_int (Fx.pa_c pe_bl pa_nil))) (Fx.pa_c (pe_tup (Fx.pa_c pe_str pa_nil)) (Fx.pa_c (pe_tup (Fx.pa_c pe_non pa_nil)) (Fx.pa_c (pe_tup (Fx.pa_c (pe_tup pa_nil) pa_nil)) pa_nil))))))) pa_nil))))) pss_nil)
        (pss_cons (ps_if (pt_cmpR op_eq (pv 2) pe_int (nomark _)) (pss_one (ps_ret (Fx.pe_cal C__law_choice (hr.mono (by decide)) pass0 (Fx.pa_c (pv 0) (Fx.pa_c (pe_lst (Fx.pa_c pe_non (Fx.pa_c pe_str (Fx.pa_c pe_int (Fx.pa_c pe_str pa_nil))))) pa_nil))))) pss_nil)
        (pss_cons (ps_if (pt_cmpR op_eq (pv 2) pe_int (nomark _)) (pss_one (ps_ret (pe_tup (Fx.pa_c pe_int (Fx.pa_c pe_int pa_nil))))) pss_nil)
        (pss_cons (ps_if (pt_cmpR op_eq (pv 2) pe_int (nomark _)) (pss_one (ps_ret (pe_tup pa_nil))) pss_nil)
        (pss_cons (ps_if (pt_cmpR op_eq (pv 2) pe_int (nomark _)) (pss_one (ps_ret (pe_op op_catA (pv 1) (pe_slice sl_tupA (pv 1) (po_some (pe_un un_neg pe_int)) po_none)))) pss_nil)
        (pss_one (ps_ret (Fx.pe_cTy Fx.tup_L T.b_tuple (by decide +kernel) (Fx.pa_c (pe_lc (own := [("_law_one", 4)]) rfl sc__law_odd_marks.nd (pi_range1 rfl T.b_range (Fx.pa_c pe_int pa_nil)) (blkOk_by (N := N__law_odd_marks) (sc := defScope s__law_odd_marks) (by decide +kernel)) (fun _ _ _ _ _ => (pg_name (i := 4) sc__law_odd_marks.nd rfl (Or.inl rfl))) (fun _ _ _ _ _ => (pts_one (pt_val (Fx.pe_cal C__law_one_in (hr.mono (by decide)) pass0 (Fx.pa_c (pv 0) (Fx.pa_c pe_int pa_nil)))))) (fun _ _ _ _ _ => (pv 4))) pa_nil)))))))))))))))), ?_⟩
    obtain ⟨b, p, ds, L, rfl, hB, hd, ok, L40, q⟩ := h
    refine seqI fun K1 k1 => ?_
    walk_at "rd"
    refine ⟨b, _, rfl, hB, by decide, by decide, fun way H1 w0 w1 kp1 => k1 _ _ ?_⟩
    clear k1
    refine seqI fun K1 k1 => ?_
    walk_at "rd"
    refine ⟨b, _, rfl, kp1.bag, by decide, by decide, fun mark H2 m0 m1 kp2 => k1 _ _ ?_⟩
    clear k1
    have kp2 := kp1.trans kp2
    have B2 := kp2.bag
    have hd2 := hd.kp hB kp2
    clear kp1
    cases hd2 with
    | tup hp hds =>
    rename_i xs
    obtain ⟨mark, rfl⟩ := ni_nat m0
    have lx := hds.len
    have okl := (ok.2 ds rfl).1
    have oks := (ok.2 ds rfl).2
    have q2 : ∀ v ds' H', Kp b H H' → Dv H' v (.tuple ds') → MkOk (max 32 (L + 1)) (.tuple ds') → Q v H' := fun v ds' H' kp hd hm => q v _ H' kp (.of hd hm.nl) hm
    have fin : ∀ v ds' H', Same H2 H' → Dv H' v (.tuple ds') → MkOk (max 32 (L + 1)) (.tuple ds') → Q v H' := fun v ds' H' s hd hm => q2 v ds' H' (kp2.then s) hd hm
    have bf : ∀ {a : Addr}, H2 a = none → H a = none := fun h => kp2.free h
    refine seqI fun K1 k1 => ?_
    walk_at "rd"
    refine ite_i (fun g => ⟨_, hp, fun l nl => ?_⟩) (fun g => k1 _ _ ?_)
    · exact q _ (.list ds) _ (kp2.then (same_new nl)) (.lst (bf nl) upd_same (hds.same (same_new nl)) ok.nl) (mk_lst oks (by omega))
    clear k1
    refine seqI fun K1 k1 => ?_
    walk_at "rd"
    refine ite_i (fun g => ?_) (fun g => k1 _ _ ?_)
    · clear k1
      refine ⟨⟨by decide, by decide, by decide⟩, by decide, fun lq nlq => ⟨b, lq, _, rfl, B2.same (same_new nlq), upd_same, (show 0 < 3 by decide), (show 3 ≤ 100000 by decide), fun w H3 hm kp3 => ⟨by decide, fun tq ntq => ?_⟩⟩⟩
      have kp3' := (Kp.same B2 (same_new (o := .lst [.int 32, .int 33, .int (10 ^ Int.toNat 39)]) nlq)).trans kp3
      have hp3 := kp3'.tup B2 hp
      have hds3 : DvAll H3 xs ds := DvAll.map (fun a xs e => kp3'.lst B2 e) (fun a xs e => kp3'.tup B2 e) _ _ hds
      have st := same_new (o := .tup [w]) ntq
      have key : ∀ d, Dv H3 w d → Se d → rCatA K (.ref p) (.ref tq) (upd H3 tq (.tup [w])) Q := fun d hd sd =>
        cat_any (st _ _ hp3) (hds3.same st) upd_same (.cons (hd.same st) .nil) (by rw [List.length_singleton]; omega) fun r H' s5 dv => q2 _ _ H' ((kp2.trans kp3').then (st.trans s5)) dv (mk_tup (M := L + 1) (fun x hx => (List.mem_append.mp hx).elim (oks x) fun h => by rw [List.mem_singleton.mp h]; exact sd) (by rw [List.length_append, List.length_singleton]; omega) (Nat.le_max_right ..) (by omega))
      simp only [List.mem_cons, List.not_mem_nil, or_false] at hm
      rcases hm with rfl | rfl | rfl
      · exact key _ (.int _) (sm_i (by decide) (by decide))
      · exact key _ (.int _) (sm_i (by decide) (by decide))
      · exact key _ (.int _) sm_big
    clear k1
    refine seqI fun K1 k1 => ?_
    walk_at "rd"
    refine ite_i (fun g => ?_) (fun g => k1 _ _ ?_)
    · clear k1
      refine ⟨by decide, fun tq ntq => ?_⟩
      have st := same_new (o := .tup [.int (-1 - (mark : Nat))]) ntq
      exact cat_any upd_same (.cons (.int _) .nil) (st _ _ hp) (hds.same st) (by rw [List.length_singleton]; omega) fun r H' s5 dv => fin _ _ H' (st.trans s5) dv (mk_tup (M := L + 1) (fun x hx => (List.mem_append.mp hx).elim (fun h => by rw [List.mem_singleton.mp h]; exact sm_i (by omega) (by omega)) (oks x)) (by rw [List.length_append, List.length_singleton]; omega) (Nat.le_max_right ..) (by omega))
    clear k1
    refine seqI fun K1 k1 => ?_
    walk_at "rd"
    refine ite_i (fun g => ?_) (fun g => k1 _ _ ?_)
    · clear k1
      exact ⟨by decide, fun tq ntq => fin _ [.int (mark : Nat), .int (mark : Nat)] _ (same_new ntq) (.tup upd_same (.cons (.int _) (.cons (.int _) .nil))) (mk_tup (M := 2) (by
        intro x hx
        simp only [List.mem_cons, List.not_mem_nil, or_false] at hx
        rcases hx with rfl | rfl <;> exact sm_i (by omega) (by omega)) (Nat.le_refl _) (by omega) (by decide))⟩
    clear k1
    refine seqI fun K1 k1 => ?_
    walk_at "rd"
    refine ite_i (fun g => ?_) (fun g => k1 _ _ ?_)
    · clear k1
      exact ⟨by decide, fun tq ntq => fin _ [.int (mark : Nat), .int (31 - (mark : Nat))] _ (same_new ntq) (.tup upd_same (.cons (.int _) (.cons (.int _) .nil))) (mk_tup (M := 2) (by
        intro x hx
        simp only [List.mem_cons, List.not_mem_nil, or_false] at hx
        rcases hx with rfl | rfl <;> exact sm_i (by omega) (by omega)) (Nat.le_refl _) (by omega) (by decide))⟩
    clear k1
    refine seqI fun K1 k1 => ?_
    walk_at "rd"
    refine ite_i (fun g => ?_) (fun g => k1 _ _ ?_)
    · clear k1
      refine ⟨by decide, fun t0 m_t0 => ⟨by decide, fun t1 m_t1 => ⟨by decide, fun t2 m_t2 => ⟨by decide, fun t3 m_t3 => ⟨by decide, fun t4 m_t4 => ⟨by decide, fun t5 m_t5 => ⟨by decide, fun t6 m_t6 => ⟨by decide, fun t7 m_t7 => ?_⟩⟩⟩⟩⟩⟩⟩⟩
      have t_t0 := same_new (H := H2) (o := .tup [.bl true]) m_t0
      have t_t1 := same_new (H := (upd H2 t0 (.tup [.bl true]))) (o := .tup [.bl false, .int 1]) m_t1
      have t_t2 := same_new (H := (upd (upd H2 t0 (.tup [.bl true])) t1 (.tup [.bl false, .int 1]))) (o := .tup [.int 0, .bl true]) m_t2
      have t_t3 := same_new (H := (upd (upd (upd H2 t0 (.tup [.bl true])) t1 (.tup [.bl false, .int 1])) t2 (.tup [.int 0, .bl true]))) (o := .tup [.str "1"]) m_t3
      have t_t4 := same_new (H := (upd (upd (upd (upd H2 t0 (.tup [.bl true])) t1 (.tup [.bl false, .int 1])) t2 (.tup [.int 0, .bl true])) t3 (.tup [.str "1"]))) (o := .tup [.non]) m_t4
      have t_t5 := same_new (H := (upd (upd (upd (upd (upd H2 t0 (.tup [.bl true])) t1 (.tup [.bl false, .int 1])) t2 (.tup [.int 0, .bl true])) t3 (.tup [.str "1"])) t4 (.tup [.non]))) (o := .tup []) m_t5
      have t_t6 := same_new (H := (upd (upd (upd (upd (upd (upd H2 t0 (.tup [.bl true])) t1 (.tup [.bl false, .int 1])) t2 (.tup [.int 0, .bl true])) t3 (.tup [.str "1"])) t4 (.tup [.non])) t5 (.tup []))) (o := .tup [.ref t5]) m_t6
      have t_t7 := same_new (H := (upd (upd (upd (upd (upd (upd (upd H2 t0 (.tup [.bl true])) t1 (.tup [.bl false, .int 1])) t2 (.tup [.int 0, .bl true])) t3 (.tup [.str "1"])) t4 (.tup [.non])) t5 (.tup [])) t6 (.tup [.ref t5]))) (o := .lst [.ref t0, .ref t1, .ref t2, .ref t3, .ref t4, .ref t6]) m_t7
      have h_t0 : (upd (upd (upd (upd (upd (upd (upd (upd H2 t0 (.tup [.bl true])) t1 (.tup [.bl false, .int 1])) t2 (.tup [.int 0, .bl true])) t3 (.tup [.str "1"])) t4 (.tup [.non])) t5 (.tup [])) t6 (.tup [.ref t5])) t7 (.lst [.ref t0, .ref t1, .ref t2, .ref t3, .ref t4, .ref t6])) t0 = some (.tup [.bl true]) := (t_t7 _ _ (t_t6 _ _ (t_t5 _ _ (t_t4 _ _ (t_t3 _ _ (t_t2 _ _ (t_t1 _ _ upd_same)))))))
      have h_t1 : (upd (upd (upd (upd (upd (upd (upd (upd H2 t0 (.tup [.bl true])) t1 (.tup [.bl false, .int 1])) t2 (.tup [.int 0, .bl true])) t3 (.tup [.str "1"])) t4 (.tup [.non])) t5 (.tup [])) t6 (.tup [.ref t5])) t7 (.lst [.ref t0, .ref t1, .ref t2, .ref t3, .ref t4, .ref t6])) t1 = some (.tup [.bl false, .int 1]) := (t_t7 _ _ (t_t6 _ _ (t_t5 _ _ (t_t4 _ _ (t_t3 _ _ (t_t2 _ _ upd_same))))))
      have h_t2 : (upd (upd (upd (upd (upd (upd (upd (upd H2 t0 (.tup [.bl true])) t1 (.tup [.bl false, .int 1])) t2 (.tup [.int 0, .bl true])) t3 (.tup [.str "1"])) t4 (.tup [.non])) t5 (.tup [])) t6 (.tup [.ref t5])) t7 (.lst [.ref t0, .ref t1, .ref t2, .ref t3, .ref t4, .ref t6])) t2 = some (.tup [.int 0, .bl true]) := (t_t7 _ _ (t_t6 _ _ (t_t5 _ _ (t_t4 _ _ (t_t3 _ _ upd_same)))))
      have h_t3 : (upd (upd (upd (upd (upd (upd (upd (upd H2 t0 (.tup [.bl true])) t1 (.tup [.bl false, .int 1])) t2 (.tup [.int 0, .bl true])) t3 (.tup [.str "1"])) t4 (.tup [.non])) t5 (.tup [])) t6 (.tup [.ref t5])) t7 (.lst [.ref t0, .ref t1, .ref t2, .ref t3, .ref t4, .ref t6])) t3 = some (.tup [.str "1"]) := (t_t7 _ _ (t_t6 _ _ (t_t5 _ _ (t_t4 _ _ upd_same))))
      have h_t4 : (upd (upd (upd (upd (upd (upd (upd (upd H2 t0 (.tup [.bl true])) t1 (.tup [.bl false, .int 1])) t2 (.tup [.int 0, .bl true])) t3 (.tup [.str "1"])) t4 (.tup [.non])) t5 (.tup [])) t6 (.tup [.ref t5])) t7 (.lst [.ref t0, .ref t1, .ref t2, .ref t3, .ref t4, .ref t6])) t4 = some (.tup [.non]) := (t_t7 _ _ (t_t6 _ _ (t_t5 _ _ upd_same)))
      have h_t5 : (upd (upd (upd (upd (upd (upd (upd (upd H2 t0 (.tup [.bl true])) t1 (.tup [.bl false, .int 1])) t2 (.tup [.int 0, .bl true])) t3 (.tup [.str "1"])) t4 (.tup [.non])) t5 (.tup [])) t6 (.tup [.ref t5])) t7 (.lst [.ref t0, .ref t1, .ref t2, .ref t3, .ref t4, .ref t6])) t5 = some (.tup []) := (t_t7 _ _ (t_t6 _ _ upd_same))
      have h_t6 : (upd (upd (upd (upd (upd (upd (upd (upd H2 t0 (.tup [.bl true])) t1 (.tup [.bl false, .int 1])) t2 (.tup [.int 0, .bl true])) t3 (.tup [.str "1"])) t4 (.tup [.non])) t5 (.tup [])) t6 (.tup [.ref t5])) t7 (.lst [.ref t0, .ref t1, .ref t2, .ref t3, .ref t4, .ref t6])) t6 = some (.tup [.ref t5]) := (t_t7 _ _ upd_same)
      have h_t7 : (upd (upd (upd (upd (upd (upd (upd (upd H2 t0 (.tup [.bl true])) t1 (.tup [.bl false, .int 1])) t2 (.tup [.int 0, .bl true])) t3 (.tup [.str "1"])) t4 (.tup [.non])) t5 (.tup [])) t6 (.tup [.ref t5])) t7 (.lst [.ref t0, .ref t1, .ref t2, .ref t3, .ref t4, .ref t6])) t7 = some (.lst [.ref t0, .ref t1, .ref t2, .ref t3, .ref t4, .ref t6]) := upd_same
      have sA := (((((((t_t0.trans t_t1).trans t_t2).trans t_t3).trans t_t4).trans t_t5).trans t_t6).trans t_t7)
      clear t_t0 t_t1 t_t2 t_t3 t_t4 t_t5 t_t6 t_t7
      generalize upd (upd (upd (upd (upd (upd (upd (upd H2 t0 (.tup [.bl true])) t1 (.tup [.bl false, .int 1])) t2 (.tup [.int 0, .bl true])) t3 (.tup [.str "1"])) t4 (.tup [.non])) t5 (.tup [])) t6 (.tup [.ref t5])) t7 (.lst [.ref t0, .ref t1, .ref t2, .ref t3, .ref t4, .ref t6]) = H3 at sA h_t0 h_t1 h_t2 h_t3 h_t4 h_t5 h_t6 h_t7
      clear m_t7 m_t6 m_t5 m_t4 m_t3 m_t2 m_t1 m_t0
      have kpA := Kp.same B2 sA
      refine ⟨b, t7, _, rfl, kpA.bag, h_t7, (show 0 < 6 by decide), (show 6 ≤ 100000 by decide), fun w H4 hm kp4 => ?_⟩
      have kp5 := kp2.trans (kpA.trans kp4)
      have sb : ∀ c : Bool, Se (.bool c) := fun c => ⟨(sm_bl c).mono (by decide) (by decide), rfl⟩
      have s1 : Se (.str "1") := ⟨⟨by decide, by decide, by decide, by decide +kernel, by decide +kernel⟩, by decide +kernel⟩
      have mk1 : ∀ {ds : List PyData}, (∀ x ∈ ds, Se x) → ds.length ≤ 2 → MkOk (max 32 (L + 1)) (.tuple ds) := fun h hl => mk_tup (M := 2) h hl (by omega) (by decide)
      simp only [List.mem_cons, List.not_mem_nil, or_false] at hm
      rcases hm with rfl | rfl | rfl | rfl | rfl | rfl
      · exact q2 _ [.bool true] H4 kp5 (.tup (kp4.tup kpA.bag h_t0) (.cons (.bl _) .nil)) (mk1 (by simp [sb]) (by simp))
      · exact q2 _ [.bool false, .int 1] H4 kp5 (.tup (kp4.tup kpA.bag h_t1) (.cons (.bl _) (.cons (.int _) .nil))) (mk1 (by simp [sb, sm_i]) (by simp))
      · exact q2 _ [.int 0, .bool true] H4 kp5 (.tup (kp4.tup kpA.bag h_t2) (.cons (.int _) (.cons (.bl _) .nil))) (mk1 (by simp [sb, sm_i]) (by simp))
      · exact q2 _ [.str "1"] H4 kp5 (.tup (kp4.tup kpA.bag h_t3) (.cons (.str _) .nil)) (mk1 (by simp [s1]) (by simp))
      · exact q2 _ [.none] H4 kp5 (.tup (kp4.tup kpA.bag h_t4) (.cons .non .nil)) (mk1 (fun x hx => by rw [List.mem_singleton.mp hx]; exact ⟨sm_non.mono (by decide) (by decide), rfl⟩) (by simp))
      · exact q2 _ [.tuple []] H4 kp5 (.tup (kp4.tup kpA.bag h_t6) (.cons (.tup (kp4.tup kpA.bag h_t5) .nil) .nil)) (mk1 (fun x hx => by rw [List.mem_singleton.mp hx]; exact ⟨⟨by decide, by decide, by decide, by decide +kernel, by decide +kernel⟩, rfl⟩) (by simp))
    clear k1
    refine seqI fun K1 k1 => ?_
    walk_at "rd"
    refine ite_i (fun g => ?_) (fun g => k1 _ _ ?_)
    · clear k1
      refine ⟨by decide, fun lq nlq => ⟨b, lq, _, rfl, B2.same (same_new nlq), upd_same, (show 0 < 4 by decide), (show 4 ≤ 100000 by decide), fun w H3 hm kp3 => ?_⟩⟩
      have kp3' := kp2.trans ((Kp.same B2 (same_new (o := .lst [.non, .str "", .int 0, .str "0"]) nlq)).trans kp3)
      simp only [List.mem_cons, List.not_mem_nil, or_false] at hm
      rcases hm with rfl | rfl | rfl | rfl
      · exact q _ _ H3 kp3' (.of .non rfl) (mk_any (sm_non.mono (by decide) (by decide)) rfl)
      · exact q _ (.str "") H3 kp3' (.of (.str _) rfl) (mk_any ⟨by decide, by decide, by decide, by decide +kernel, by decide +kernel⟩ rfl)
      · exact q _ _ H3 kp3' (.of (.int _) rfl) (mk_any (sm_i (i := 0) (by decide) (by decide)).s rfl)
      · exact q _ (.str "0") H3 kp3' (.of (.str _) rfl) (mk_any ⟨by decide, by decide, by decide, by decide +kernel, by decide +kernel⟩ rfl)
    clear k1
    refine seqI fun K1 k1 => ?_
    walk_at "rd"
    refine ite_i (fun g => ?_) (fun g => k1 _ _ ?_)
    · clear k1
      exact ⟨by decide, fun tq ntq => fin _ [.int 0, .int 31] _ (same_new ntq) (.tup upd_same (.cons (.int _) (.cons (.int _) .nil))) (mk_tup (M := 2) (by
        intro x hx
        simp only [List.mem_cons, List.not_mem_nil, or_false] at hx
        rcases hx with rfl | rfl <;> exact sm_i (by decide) (by decide)) (Nat.le_refl _) (by omega) (by decide))⟩
    clear k1
    refine seqI fun K1 k1 => ?_
    walk_at "rd"
    refine ite_i (fun g => ?_) (fun g => k1 _ _ ?_)
    · clear k1
      exact ⟨Nat.zero_le _, fun tq ntq => fin _ [] _ (same_new ntq) (.tup upd_same .nil) (mk_tup (M := 0) (by simp) (Nat.le_refl _) (by omega) (by decide))⟩
    clear k1
    refine seqI fun K1 k1 => ?_
    walk_at "rd"
    refine ite_i (fun g => ?_) (fun g => k1 _ _ ?_)
    · clear k1
      refine ⟨p, xs, rfl, .inl (.inl hp), fun z => ?_, fun z tq ntq => ?_⟩
      · rw [sIx_neg1] at z
        exact cat_any hp hds hp hds (by omega) fun r H' s5 dv => fin _ _ H' s5 dv (mk_tup (M := 2) (fun x hx => (List.mem_append.mp hx).elim (oks x) (oks x)) (by rw [List.length_append]; omega) (by omega) (by decide))
      · have st := same_new (o := .tup (cutV xs (some (-1)) none)) ntq
        have hd3 := (hds.drop (xs.length - 1)).same st
        rw [← cutV_neg1] at hd3
        have l1 := List.length_drop (i := xs.length - 1) (l := ds)
        have l2 := List.length_drop (i := xs.length - 1) (l := xs)
        rw [← cutV_neg1] at l2
        exact cat_any (st _ _ hp) (hds.same st) upd_same hd3 (by omega) fun r H' s5 dv => fin _ _ H' (st.trans s5) dv (mk_tup (M := L + 1) (fun x hx => (List.mem_append.mp hx).elim (oks x) fun h => oks x (List.mem_of_mem_drop h)) (by rw [List.length_append]; omega) (Nat.le_max_right ..) (by omega))
    clear k1
    walk_at "rd"
    generalize hte : tVar 4 = te
    generalize hgg : gName 4 = gg
    generalize htt : tB (tCall spOneIn [] E0 (tCons (tVar 0) (tCons (tC (V.int 4)) tNil))) = tt
    unfold tLc
    walk_at "rd"
    refine ⟨by decide, by decide, fun D nD => ?_⟩
    refine lc_range (lo := 0) (n := 32) (g := gg) (tt := tt) (te := te) (vs := [4]) (σ := [some (.ref b), some (.ref p), some (.int way), some (.int (mark : Nat)), none]) (fun i H' => ∃ l : List Nat, l.length ≤ i ∧ (∀ z ∈ l, z < 32) ∧ H' D = some (.lst (ni l)) ∧ Kp b H2 H') ⟨[], Nat.le_refl _, fun z hz => (by cases hz), upd_same, Kp.same B2 (same_new nD)⟩ ?_ ?_
    · rintro i H4 hi ⟨l, ll, hl, hD, kp4⟩
      rw [← hte, ← hgg, ← htt]
      refine ⟨rfl, ?_⟩
      walk_at "rd"
      refine ⟨b, 4, rfl, kp4.bag, by decide, by decide, fun c H5 kp5 => ⟨c, rfl, ?_⟩⟩
      have hD5 := kp5.lst kp4.bag hD
      cases c with
      | true =>
        rw [if_pos rfl]
        refine ⟨_, hD5, by rw [ni_len]; exact Nat.lt_of_lt_of_le (by omega : _ < 100) (by decide), l ++ [i], by rw [List.length_append, List.length_singleton]; omega, fun y hy => (List.mem_append.mp hy).elim (hl y) fun h => by rw [List.mem_singleton.mp h]; omega, ?_, Kp.put B2 (kp4.trans kp5) nD⟩
        rw [ni_app, ← ni1, Int.zero_add]
      | false =>
        rw [if_neg (by decide)]
        exact ⟨l, by omega, hl, hD5, kp4.trans kp5⟩
    rintro H4 ⟨l, ll, hl, hD, kp4⟩
    refine ⟨_, hD, fun r nr => q2 _ (l.map fun n => .int ((n : Nat) : Int)) _ ((kp2.trans kp4).then (same_new nr)) (.tup upd_same (DvAll.ni l)) (mk_tup (M := 32) (fun x hx => ?_) (by rw [List.length_map]; omega) (Nat.le_max_left ..) (by decide))⟩
    obtain ⟨m, hm, rfl⟩ := List.mem_map.mp hx
    have := hl m hm
    exact sm_i (by omega) (by omega)
end
section
variable {P : Program} {w : World} {K : PySem.W.Frag} {mg : Str → Option Value} {base : Heap}
theorem ok__law_ringed (S : Src K mg "_law_ringed" s__law_ringed) (T : Tx P K mg) (C__law_choice : Cal P w K mg base CX0 2 "_law_choice" ["_law_bag_here", "_law_things"] spChoiceL) (C__law_pick : Cal P w K mg base CX0 1 "_law_pick" ["_law_bag_here", "_law_many"] spPick)  : Cal P w K mg base CX0 3 "_law_ringed" ["_law_bag_here", "_law_told"] spLRinged := by
  refine S.cal sc__law_ringed bn__law_ringed (fun vs H Q E h => ?_) (fun f cdv A outer s H vs Q E hr h => ?_)
  · first | (obtain ⟨rfl, _⟩ := h; rfl) | (obtain ⟨_, rfl, _⟩ := h; rfl) | (obtain ⟨_, _, rfl, _⟩ := h; rfl) | (obtain ⟨_, _, _, rfl, _⟩ := h; rfl) | (obtain ⟨_, _, _, _, rfl, _⟩ := h; rfl) | (obtain ⟨_, _, _, _, _, rfl, _⟩ := h; rfl) | (obtain ⟨_, _, _, _, _, _, rfl, _⟩ := h; rfl) | (obtain ⟨_, _, _, _, _, _, _, rfl, _⟩ := h; rfl) | (obtain ⟨_, _, _, _, _, _, _, _, rfl, _⟩ := h; rfl) | (obtain ⟨_, _, _, _, _, _, _, _, _, rfl, _⟩ := h; rfl) | (obtain ⟨_, _, _, _, _, _, _, _, _, _, rfl, _⟩ := h; rfl) | (obtain ⟨_, _, _, _, _, _, _, _, _, _, _, rfl, _⟩ := h; rfl) | (obtain ⟨_, _, _, _, _, _, _, _, _, _, _, _, rfl, _⟩ := h; rfl)
  · skip
    refine ⟨_, (pss_cons (ps_set (i := 2) sc__law_ringed.nd rfl (Or.inl rfl) (Fx.pe_cB Fx.len_L T.b_len (by decide +kernel) (Fx.pa_c (pv 1) pa_nil)))
        (pss_cons (ps_setLc (i := 3) (own := [("_law_thing", 9)]) rfl sc__law_ringed.nd rfl rfl (sw_true rfl rfl rfl (by decide +kernel)) (pi_range2 rfl T.b_range (Fx.pa_c pe_int (Fx.pa_c (pe_op op_add (pv 2) pe_int) pa_nil))) (blkOk_by (N := N__law_ringed) (sc := defScope s__law_ringed) (by decide +kernel)) (fun _ _ _ _ _ => (pg_name (i := 9) sc__law_ringed.nd rfl (Or.inl rfl))) (fun _ _ _ _ _ => (pts_one (pt_cmpR op_eq (pe_ix Fx.ix_T (pe_ix Fx.ix_L (pv 1) (pe_op op_sub (pv 9) pe_int) (fun _ _ => rfl)) pe_int (fun _ _ => rfl)) pe_int (nomark _)))) (fun _ _ _ _ _ => (pv 9)))
        (pss_cons (ps_if (pt_cmpR (Fx.eq_LL hr.units) (pv 3) (pe_lst pa_nil) (nomark _)) (pss_one (ps_ret (pv 1))) pss_nil)
        (pss_cons (ps_set (i := 4) sc__law_ringed.nd rfl (Or.inl rfl) (Fx.pe_cal C__law_choice (hr.mono (by decide)) pass0 (Fx.pa_c (pv 0) (Fx.pa_c (pv 3) pa_nil))))
        (pss_cons (ps_set (i := 5) sc__law_ringed.nd rfl (Or.inl rfl) (pv 4))
        (pss_cons (ps_for PassesOwn.never rfl (pi_range1 rfl T.b_range (Fx.pa_c (Fx.pe_cal C__law_pick (hr.mono (by decide)) pass0 (Fx.pa_c (pv 0) (Fx.pa_c pe_int pa_nil))) pa_nil)) (pg_name (i := 6) sc__law_ringed.nd rfl (Or.inl rfl)) (pss_one (ps_if (pt_cmpR op_ne (pe_ix Fx.ix_T (pe_ix Fx.ix_L (pv 1) (pe_op op_sub (pv 5) pe_int) (fun _ _ => rfl)) pe_int (fun _ _ => rfl)) pe_int (nomark _)) (pss_one (ps_set (i := 5) sc__law_ringed.nd rfl (Or.inl rfl) (pe_ix Fx.ix_T (pe_ix Fx.ix_L (pv 1) (pe_op op_sub (pv 5) pe_int) (fun _ _ => rfl)) pe_int (fun _ _ => rfl)))) pss_nil)))
        (pss_cons (ps_set (i := 7) sc__law_ringed.nd rfl (Or.inl rfl) (Fx.pe_cTy Fx.list_L T.b_list (by decide +kernel) (Fx.pa_c (pv 1) pa_nil)))
        (pss_cons (ps_set (i := 8) sc__law_ringed.nd rfl (Or.inl rfl) (pe_ix Fx.ix_L (pv 7) (pe_op op_sub (pv 4) pe_int) (fun _ _ => rfl)))
        (pss_cons (ps_asg (pe_tup (Fx.pa_c (pe_ix Fx.ix_T (pv 8) pe_int (fun _ _ => rfl)) (Fx.pa_c (pv 5) (Fx.pa_c (pe_ix Fx.ix_T (pe_ix Fx.ix_L (pv 7) (pe_op op_sub (pv 5) pe_int) (fun _ _ => rfl)) pe_int (fun _ _ => rfl)) (Fx.pa_c (pe_ix Fx.ix_T (pv 8) pe_int (fun _ _ => rfl)) pa_nil))))) (pg_sub (pv 7) (pe_op op_sub (pv 4) pe_int) set_list))
        (pss_cons (ps_set (i := 8) sc__law_ringed.nd rfl (Or.inl rfl) (pe_ix Fx.ix_L (pv 7) (pe_op op_sub (pv 5) pe_int) (fun _ _ => rfl)))
        (pss_cons (ps_asg (pe_tup (Fx.pa_c (pe_ix Fx.ix_T (pv 8) pe_int (fun _ _ => rfl)) (Fx.pa_c (pe_ix Fx.ix_T (pv 8) pe_int (fun _ _ => rfl)) (Fx.pa_c (pe_ix Fx.ix_T (pv 8) pe_int (fun _ _ => rfl)) (Fx.pa_c (pv 4) pa_nil))))) (pg_sub (pv 7) (pe_op op_sub (pv 5) pe_int) set_list))
        (pss_one (ps_ret (pv 7)))))))))))))), ?_⟩
    obtain ⟨b, p, as, rs, L, rfl, hB, R, n1, n60, fb, q⟩ := h
    obtain ⟨all, am⟩ := fb.good
    obtain ⟨vh, vb⟩ := holB_le all
    refine seqI fun K1 k1 => ?_
    walk_at "rd"
    refine ⟨_, R.h, k1 _ _ ?_⟩
    clear k1
    obtain ⟨n, en⟩ : ∃ n, n = rs.length := ⟨_, rfl⟩
    rw [show (((as.map V.ref).length : Nat) : Int) = (n : Nat) by rw [List.length_map, R.la, en]]
    refine seqI fun K1 k1 => ?_
    generalize hte : tVar 9 = te
    generalize hgg : gName 9 = gg
    generalize htt : tTest (tOp rEq (tOp rIxTt (tOp rIxLt (tVar 1) (tOp (rI0 fun i j => V.int (i - j)) te (tC (V.int 1)))) (tC (V.int 1))) (tC (V.int 0))) = tt
    unfold tLc
    walk_at "rd"
    refine ⟨by decide, by decide, by omega, by omega, fun D nD => ?_⟩
    rw [show ((n : Int) + 1 - 1).toNat = n by omega]
    refine lc_range (lo := 1) (n := n) (g := gg) (tt := tt) (te := te) (vs := [9]) (σ := [some (.ref b), some (.ref p), some (.int (n : Nat)), none, none, none, none, none, none, none]) (fun i H' => H' D = some (.lst (ni ((List.range' 1 i).filter fun z => decide ((holB rs).getD z 0 = 0)))) ∧ Same H H') ⟨upd_same, same_new nD⟩ ?_ ?_
    · rintro i H4 hi ⟨hD, s4⟩
      have ei : (1 : Int) + (i : Nat) = ((i + 1 : Nat) : Int) := by omega
      obtain ⟨a2, u0, _, g1, g2⟩ := (R.same s4).get all (z := i + 1) (by omega) (by omega)
      rw [ei, ← htt, ← hte, ← hgg]
      refine ⟨rfl, ?_⟩
      walk_at "rd"
      refine ⟨_, s4 _ _ R.h, _, g1, _, rfl, _, g2, _, rfl, rfl, ?_⟩
      have lf : ((List.range' 1 i).filter fun z => decide ((holB rs).getD z 0 = 0)).length < sizeLine := by
        have := List.length_filter_le (fun z => decide ((holB rs).getD z 0 = 0)) (List.range' 1 i)
        rw [List.length_range'] at this
        exact Nat.lt_of_lt_of_le (by omega : _ < 100) (by decide)
      rw [List.range'_concat, List.filter_append, show 1 + 1 * i = i + 1 by omega]
      by_cases g3 : (holB rs).getD (i + 1) 0 = 0
      · rw [if_pos (by rw [g3]; rfl), List.filter_cons_of_pos (by simpa using g3)]
        refine ⟨_, hD, by rw [ni_len]; exact lf, ?_, Same.put s4 nD⟩
        rw [ni_app]
        rfl
      · rw [if_neg (fun z => g3 (by have := V.int.inj z; omega)), List.filter_cons_of_neg (by simpa using g3)]
        rw [List.filter_nil, List.append_nil]
        exact ⟨hD, s4⟩
    rintro H1 ⟨hD, s1⟩
    refine k1 _ _ ?_
    clear k1 hte hgg htt
    have B1 := hB.same s1
    have R1 := R.same s1
    have lP : ∀ z ∈ (List.range' 1 n).filter fun z => decide ((holB rs).getD z 0 = 0), 1 ≤ z ∧ z ≤ n := fun z hz => by
      have := List.mem_range'_1.mp (List.mem_filter.mp hz).1
      omega
    have ll : ((List.range' 1 n).filter fun z => decide ((holB rs).getD z 0 = 0)).length ≤ 60 := by
      have := List.length_filter_le (fun z => decide ((holB rs).getD z 0 = 0)) (List.range' 1 n)
      rw [List.length_range'] at this
      omega
    generalize (List.range' 1 n).filter (fun z => decide ((holB rs).getD z 0 = 0)) = l at hD lP ll
    refine seqI fun K1 k1 => ?_
    refine ifI fun A2 B2 ka kb => ?_
    walk_at "rd"
    have go : ∀ H2, Same H1 H2 → l ≠ [] → B2 H2 := by
      intro H2 s2 ne
      refine kb _ (k1 _ _ ?_)
      clear ka kb k1
      have R2 := R1.same s2
      have B2 := B1.same s2
      have hD := s2 _ _ hD
      have kp2 := Kp.same hB (s1.trans s2)
      refine seqI fun K1 k1 => ?_
      walk_at "rd"
      refine ⟨b, D, _, rfl, B2, hD, by rw [ni_len]; exact (by have := mt List.length_eq_zero_iff.mp ne; omega), by rw [ni_len]; omega, fun v H3 hv kp3 => k1 _ _ ?_⟩
      clear k1
      obtain ⟨pl, hpl, rfl⟩ := List.mem_map.mp hv
      obtain ⟨p1, p2⟩ := lP pl hpl
      have R3 := R2.kp B2 kp3
      have B3 := kp3.bag
      have kp3 := kp2.trans kp3
      refine seqI fun K1 k1 => ?_
      walk_at "rd"
      refine k1 _ _ ?_
      clear k1
      refine seqI fun K0 k0 => ?_
      refine forI fun R0 hR => ?_
      walk_at "rd"
      refine ⟨b, 4, rfl, B3, by decide, by decide, fun m H4 m0 m1 kp4 => ?_⟩
      obtain ⟨m, rfl⟩ := ni_nat m0
      have R4 := R3.kp B3 kp4
      have kp4 := kp3.trans kp4
      refine ⟨_, rfl, by omega, by omega, hR _ _ ?_⟩
      clear hR
      rw [Int.toNat_natCast]
      refine for_range (lo := 0) (n := m) (fun i σ H' => ∃ (v6 : Option V) (g : Nat), σ = [some (.ref b), some (.ref p), some (.int (n : Nat)), some (.ref D), some (.int (pl : Nat)), some (.int (g : Nat)), v6, none, none, none] ∧ H' = H4 ∧ 1 ≤ g ∧ g ≤ n) ⟨none, pl, rfl, rfl, p1, p2⟩ ?_ ?_
      · rintro i σ H' hi ⟨v6, g, rfl, rfl, g1, gn⟩
        obtain ⟨a2, u0, _, x1, x2⟩ := R4.get all (z := g) g1 (by omega)
        refine ifI fun A2 B2 ka kb => ?_
        walk_at "rd"
        refine ⟨_, R4.h, _, x1, _, rfl, _, x2, _, rfl, rfl, ?_⟩
        have fl := firB_le all (j := g - 1) (by omega)
        by_cases z : natD ((rs.map fun r => r.2.2.2).getD (g - 1) .none) = 0
        · rw [if_pos (by rw [z]; rfl)]
          refine kb _ ?_
          walk_at "rd"
          exact ⟨_, g, rfl, rfl, g1, gn⟩
        · rw [if_neg (fun w => z (by have := V.int.inj w; omega))]
          refine ka _ ?_
          walk_at "rd"
          exact ⟨_, R4.h, _, x1, _, rfl, _, x2, _, rfl, _, _, rfl, rfl, by omega, by omega⟩
      rintro σ H' ⟨v6, g, rfl, rfl, g1, gn⟩
      refine k0 _ _ ?_
      clear k0
      refine seqI fun K1 k1 => ?_
      walk_at "rd"
      refine ⟨_, R4.h, fun q0 nq0 => k1 _ _ ?_⟩
      clear k1
      have N5 := LTn.new R4 nq0
      generalize upd H' q0 (.lst (as.map V.ref)) = H5 at N5
      obtain ⟨a1, r1, v0, v1, v2, v3, e1, at1, sm1, y0, y1, y2, y3, y4⟩ := N5.at_ (j := pl - 1) (by omega)
      obtain ⟨a2, r2, w0, w1, w2, w3, e2, at2, sm2, h0, h1, h2, h3, h4⟩ := N5.at_ (j := g - 1) (by omega)
      have ep : ((pl : Nat) : Int) - 1 = ((pl - 1 : Nat) : Int) := by omega
      have eg : ((g : Nat) : Int) - 1 = ((g - 1 : Nat) : Int) := by omega
      have la := R.la
      refine seqI fun K1 k1 => ?_
      walk_at "rd"
      rw [ep]
      refine ⟨_, N5.h, _, at1, k1 _ _ ?_⟩
      clear k1
      refine seqI fun K1 k1 => ?_
      walk_at "rd"
      rw [ep, eg]
      refine ⟨_, y0, _, rfl, _, N5.h, _, at2, _, rfl, _, h0, _, rfl, _, y0, _, rfl, by decide, fun t1 nt1 => ?_⟩
      have N6 := N5.set (r := (r1.1, .int (g : Nat), r2.2.2.2, r1.2.2.2)) (same_new (o := .tup [v0, .int (g : Nat), w3, v3]) nt1) (pl - 1) upd_same y1 (.int _) h4 y4 ⟨sm1.m, sm_i (by omega) (by omega), sm2.f, sm1.f⟩
      refine ⟨_, same_new nt1 _ _ N5.h, pl - 1, ix_ref (by omega), k1 _ _ ?_⟩
      clear k1
      generalize upd (upd H5 t1 (.tup [v0, .int (g : Nat), w3, v3])) q0 (.lst ((as.map V.ref).set (pl - 1) (.ref t1))) = H6 at N6
      have l6 : (rs.set (pl - 1) (r1.1, .int (g : Nat), r2.2.2.2, r1.2.2.2)).length = rs.length := List.length_set ..
      obtain ⟨a3, r3, x0, x1, x2, x3, e3, at3, sm3, i0, i1, i2, i3, i4⟩ := N6.at_ (j := g - 1) (by omega)
      refine seqI fun K1 k1 => ?_
      walk_at "rd"
      rw [eg]
      refine ⟨_, N6.h, _, at3, k1 _ _ ?_⟩
      clear k1
      walk_at "rd"
      rw [eg]
      refine ⟨_, i0, _, rfl, _, i0, _, rfl, _, i0, _, rfl, by decide, fun t2 nt2 => ?_⟩
      have N7 := N6.set (r := (r3.1, r3.2.1, r3.2.2.1, .int (pl : Nat))) (same_new (o := .tup [x0, x1, x2, .int (pl : Nat)]) nt2) (g - 1) upd_same i1 i2 i3 (.int _) ⟨sm3.m, sm3.h, sm3.b, sm_i (by omega) (by omega)⟩
      refine ⟨_, same_new nt2 _ _ N6.h, g - 1, ix_ref (by rw [List.length_set]; omega), ?_⟩
      exact q q0 _ _ _ (kp4.then N7.s) N7.lt (by rw [List.length_set]; exact l6)
    refine ⟨Nat.zero_le _, fun e0 ne0 => ⟨_, same_new ne0 _ _ hD, allF_ni _, rfl, ?_⟩⟩
    by_cases en0 : l = []
    · rw [if_pos (by rw [en0]; rfl)]
      refine ka _ ?_
      walk_at "rd"
      exact q p as rs _ (Kp.same hB (s1.trans (same_new ne0))) (R1.same (same_new ne0)) rfl
    · rw [if_neg (fun z => en0 (ni_nil.mp z))]
      exact go _ (same_new ne0) en0
end
section
variable {P : Program} {w : World} {K : PySem.W.Frag} {mg : Str → Option Value} {base : Heap}
theorem ok__law_exchanged (S : Src K mg "_law_exchanged" s__law_exchanged) (T : Tx P K mg) (C__law_pick : Cal P w K mg base CX0 1 "_law_pick" ["_law_bag_here", "_law_many"] spPick)  : Cal P w K mg base CX0 2 "_law_exchanged" ["_law_bag_here", "_law_told"] spLExch := by
  refine S.cal sc__law_exchanged bn__law_exchanged (fun vs H Q E h => ?_) (fun f cdv A outer s H vs Q E hr h => ?_)
  · first | (obtain ⟨rfl, _⟩ := h; rfl) | (obtain ⟨_, rfl, _⟩ := h; rfl) | (obtain ⟨_, _, rfl, _⟩ := h; rfl) | (obtain ⟨_, _, _, rfl, _⟩ := h; rfl) | (obtain ⟨_, _, _, _, rfl, _⟩ := h; rfl) | (obtain ⟨_, _, _, _, _, rfl, _⟩ := h; rfl) | (obtain ⟨_, _, _, _, _, _, rfl, _⟩ := h; rfl) | (obtain ⟨_, _, _, _, _, _, _, rfl, _⟩ := h; rfl) | (obtain ⟨_, _, _, _, _, _, _, _, rfl, _⟩ := h; rfl) | (obtain ⟨_, _, _, _, _, _, _, _, _, rfl, _⟩ := h; rfl) | (obtain ⟨_, _, _, _, _, _, _, _, _, _, rfl, _⟩ := h; rfl) | (obtain ⟨_, _, _, _, _, _, _, _, _, _, _, rfl, _⟩ := h; rfl) | (obtain ⟨_, _, _, _, _, _, _, _, _, _, _, _, rfl, _⟩ := h; rfl)
  · skip
    refine ⟨_, (pss_cons (ps_set (i := 2) sc__law_exchanged.nd rfl (Or.inl rfl) (Fx.pe_cB Fx.len_L T.b_len (by decide +kernel) (Fx.pa_c (pv 1) pa_nil)))
        (pss_cons (ps_set (i := 3) sc__law_exchanged.nd rfl (Or.inl rfl) (Fx.pe_cal C__law_pick (hr.mono (by decide)) pass0 (Fx.pa_c (pv 0) (Fx.pa_c (pv 2) pa_nil))))
        (pss_cons (ps_set (i := 4) sc__law_exchanged.nd rfl (Or.inl rfl) (Fx.pe_cal C__law_pick (hr.mono (by decide)) pass0 (Fx.pa_c (pv 0) (Fx.pa_c (pv 2) pa_nil))))
        (pss_cons (ps_set (i := 5) sc__law_exchanged.nd rfl (Or.inl rfl) (pe_op op_add pe_int (Fx.pe_cal C__law_pick (hr.mono (by decide)) pass0 (Fx.pa_c (pv 0) (Fx.pa_c pe_int pa_nil)))))
        (pss_cons (ps_set (i := 6) sc__law_exchanged.nd rfl (Or.inl rfl) (Fx.pe_cTy Fx.list_L T.b_list (by decide +kernel) (Fx.pa_c (pv 1) pa_nil)))
        (pss_cons (ps_set (i := 7) sc__law_exchanged.nd rfl (Or.inl rfl) (pe_lst (Fx.pa_c (Fx.pe_cTy Fx.list_T T.b_list (by decide +kernel) (Fx.pa_c (pe_ix Fx.ix_L (pv 6) (pv 3) (fun _ _ => rfl)) pa_nil)) (Fx.pa_c (Fx.pe_cTy Fx.list_T T.b_list (by decide +kernel) (Fx.pa_c (pe_ix Fx.ix_L (pv 6) (pv 4) (fun _ _ => rfl)) pa_nil)) pa_nil))))
        (pss_cons (ps_set (i := 8) sc__law_exchanged.nd rfl (Or.inl rfl) (pe_ix Fx.ix_L (pe_ix Fx.ix_L (pv 7) pe_int (fun _ _ => rfl)) (pv 5) (fun _ _ => rfl)))
        (pss_cons (ps_asg (Fx.pe_cTy Fx.tup_L T.b_tuple (by decide +kernel) (Fx.pa_c (pe_op op_cat (pe_op op_cat (pe_slice Fx.sl_L (pe_ix Fx.ix_L (pv 7) pe_int (fun _ _ => rfl)) po_none (po_some (pv 5))) (pe_lst (Fx.pa_c (pe_ix Fx.ix_L (pe_ix Fx.ix_L (pv 7) pe_int (fun _ _ => rfl)) (pv 5) (fun _ _ => rfl)) pa_nil))) (pe_slice Fx.sl_L (pe_ix Fx.ix_L (pv 7) pe_int (fun _ _ => rfl)) (po_some (pe_op op_add (pv 5) pe_int)) po_none)) pa_nil)) (pg_sub (pv 6) (pv 3) set_list))
        (pss_cons (ps_set (i := 9) sc__law_exchanged.nd rfl (Or.inl rfl) (Fx.pe_cTy Fx.list_T T.b_list (by decide +kernel) (Fx.pa_c (pe_ix Fx.ix_L (pv 6) (pv 4) (fun _ _ => rfl)) pa_nil)))
        (pss_cons (ps_if (pt_cmpR op_ne (pv 3) (pv 4) (nomark _)) (pss_one (ps_asg (Fx.pe_cTy Fx.tup_L T.b_tuple (by decide +kernel) (Fx.pa_c (pe_op op_cat (pe_op op_cat (pe_slice Fx.sl_L (pv 9) po_none (po_some (pv 5))) (pe_lst (Fx.pa_c (pv 8) pa_nil))) (pe_slice Fx.sl_L (pv 9) (po_some (pe_op op_add (pv 5) pe_int)) po_none)) pa_nil)) (pg_sub (pv 6) (pv 4) set_list))) pss_nil)
        (pss_one (ps_ret (pv 6))))))))))))), ?_⟩
    obtain ⟨b, p, as, rs, L, rfl, hB, R, n1, n60, q⟩ := h
    obtain ⟨n, en⟩ : ∃ n, n = rs.length := ⟨_, rfl⟩
    refine seqI fun K1 k1 => ?_
    walk_at "rd"
    refine ⟨_, R.h, k1 _ _ ?_⟩
    clear k1
    rw [show (((as.map V.ref).length : Nat) : Int) = (n : Nat) by rw [List.length_map, R.la, en]]
    refine seqI fun K1 k1 => ?_
    walk_at "rd"
    refine ⟨b, _, rfl, hB, by omega, by omega, fun one H1 o0 o1 kp1 => k1 _ _ ?_⟩
    clear k1
    refine seqI fun K1 k1 => ?_
    walk_at "rd"
    refine ⟨b, _, rfl, kp1.bag, by omega, by omega, fun two H2 t0 t1 kp2 => k1 _ _ ?_⟩
    clear k1
    refine seqI fun K1 k1 => ?_
    walk_at "rd"
    refine ⟨b, _, rfl, kp2.bag, by decide, by decide, fun f H3 f0 f1 kp3 => ⟨f, rfl, k1 _ _ ?_⟩⟩
    clear k1
    have kp3 := kp1.trans (kp2.trans kp3)
    clear kp1 kp2
    have R3 := R.kp hB kp3
    have la := R.la
    obtain ⟨one, rfl⟩ := ni_nat o0
    obtain ⟨two, rfl⟩ := ni_nat t0
    obtain ⟨f, rfl⟩ := ni_nat f0
    rw [show (1 : Int) + (f : Nat) = ((f + 1 : Nat) : Int) by omega]
    have ho : one < rs.length := by omega
    have ht : two < rs.length := by omega
    refine seqI fun K1 k1 => ?_
    walk_at "rd"
    refine ⟨_, R3.h, fun q0 nq0 => k1 _ _ ?_⟩
    clear k1
    have N4 := LTn.new R3 nq0
    generalize upd H3 q0 (.lst (as.map V.ref)) = H4 at N4
    obtain ⟨a1, r1, v0, v1, v2, v3, e1, at1, sm1, g0, g1, g2, g3, g4⟩ := N4.at_ ho
    obtain ⟨a2, r2, w0, w1, w2, w3, e2, at2, sm2, h0, h1, h2, h3, h4⟩ := N4.at_ ht
    refine seqI fun K1 k1 => ?_
    walk_at "rd"
    refine ⟨_, N4.h, _, at1, _, rfl, _, g0, fun l1 nl1 => ?_⟩
    have sA := same_new (o := .lst [v0, v1, v2, v3]) nl1
    have hl1 : (upd H4 l1 (.lst [v0, v1, v2, v3])) l1 = some (.lst [v0, v1, v2, v3]) := upd_same
    generalize upd H4 l1 (.lst [v0, v1, v2, v3]) = H5 at sA hl1
    refine ⟨_, sA _ _ N4.h, _, at2, _, rfl, _, sA _ _ h0, fun l2 nl2 => ⟨by decide, fun lr nlr => k1 _ _ ?_⟩⟩
    clear k1
    have sB := same_new (o := .lst [w0, w1, w2, w3]) nl2
    have sC := same_new (o := .lst [V.ref l1, V.ref l2]) nlr
    have hl2 := sC _ _ (upd_same (H := H5) (a := l2) (o := .lst [w0, w1, w2, w3]))
    have hl1 := (sB.trans sC) _ _ hl1
    have hlr : (upd (upd H5 l2 (.lst [w0, w1, w2, w3])) lr (.lst [V.ref l1, V.ref l2])) lr = some (.lst [V.ref l1, V.ref l2]) := upd_same
    have sD := (sA.trans sB).trans sC
    generalize upd (upd H5 l2 (.lst [w0, w1, w2, w3])) lr (.lst [V.ref l1, V.ref l2]) = H6 at sD hl1 hl2 hlr
    clear sA sB sC nl1 nl2 nlr
    refine seqI fun K1 k1 => ?_
    walk_at "rd"
    refine ⟨_, hlr, _, rfl, _, rfl, _, hl1, ?_⟩
    have hf : f + 1 < 4 := by omega
    obtain ⟨y, ey⟩ : ∃ y, [v0, v1, v2, v3][f + 1]? = some y := ⟨_, List.getElem?_eq_getElem hf⟩
    obtain ⟨z, ez⟩ : ∃ z, [w0, w1, w2, w3][f + 1]? = some z := ⟨_, List.getElem?_eq_getElem hf⟩
    refine ⟨y, atI_get ey, k1 _ _ ?_⟩
    clear k1
    refine seqI fun K1 k1 => ?_
    walk_at "rd"
    have bd : ∀ xs ys : List V, xs.length + ys.length ≤ 10 → xs.length + ys.length ≤ sizeLine := fun xs ys h => Nat.le_trans h (by decide)
    refine ⟨_, hlr, _, rfl, _, rfl, _, hl1, fun c1 nc1 => ?_⟩
    have t1 := same_new (o := .lst (cutV [v0, v1, v2, v3] none (some ((f + 1 : Nat) : Int)))) nc1
    refine ⟨_, t1 _ _ hlr, _, rfl, _, rfl, _, t1 _ _ hl2, z, atI_get ez, by decide, fun c2 nc2 => ?_⟩
    have t2 := same_new (o := .lst [z]) nc2
    have hc1 := t2 _ _ (upd_same (H := H6) (a := c1) (o := .lst (cutV [v0, v1, v2, v3] none (some ((f + 1 : Nat) : Int)))))
    rw [cutV_hi] at t1 t2 hc1 ⊢
    refine ⟨_, hc1, by simp; exact Nat.le_trans (by omega : _ ≤ 10) (by decide), fun c3 nc3 => ?_⟩
    have t3 := same_new (o := .lst ([v0, v1, v2, v3].take (f + 1) ++ [z])) nc3
    have hc3 : (upd (upd (upd H6 c1 (.lst ([v0, v1, v2, v3].take (f + 1)))) c2 (.lst [z])) c3 (.lst ([v0, v1, v2, v3].take (f + 1) ++ [z]))) c3 = some (.lst ([v0, v1, v2, v3].take (f + 1) ++ [z])) := upd_same
    have T3 := (t1.trans t2).trans t3
    generalize upd (upd (upd H6 c1 (.lst ([v0, v1, v2, v3].take (f + 1)))) c2 (.lst [z])) c3 (.lst ([v0, v1, v2, v3].take (f + 1) ++ [z])) = H7 at T3 hc3
    clear t1 t2 t3 hc1 nc1 nc2 nc3
    refine ⟨_, T3 _ _ hlr, _, rfl, _, rfl, _, T3 _ _ hl1, fun c4 nc4 => ?_⟩
    rw [show (((f + 1 : Nat) : Int) + 1) = ((f + 1 + 1 : Nat) : Int) by omega, cutV_lo]
    have t4 := same_new (o := .lst ([v0, v1, v2, v3].drop (f + 1 + 1))) nc4
    refine ⟨_, t4 _ _ hc3, bd _ _ (by simp; omega), ?_⟩
    rw [set_cut hf]
    intro c5 nc5 t nt
    have t5 := same_new (o := .lst ([v0, v1, v2, v3].set (f + 1) z)) nc5
    have t6 := same_new (o := .tup ([v0, v1, v2, v3].set (f + 1) z)) nt
    have hT : (upd (upd (upd H7 c4 (.lst ([v0, v1, v2, v3].drop (f + 1 + 1)))) c5 (.lst ([v0, v1, v2, v3].set (f + 1) z))) t (.tup ([v0, v1, v2, v3].set (f + 1) z))) t = some (.tup ([v0, v1, v2, v3].set (f + 1) z)) := upd_same
    have T6 := ((T3.trans t4).trans t5).trans t6
    generalize upd (upd (upd H7 c4 (.lst ([v0, v1, v2, v3].drop (f + 1 + 1)))) c5 (.lst ([v0, v1, v2, v3].set (f + 1) z))) t (.tup ([v0, v1, v2, v3].set (f + 1) z)) = H8 at T6 hT
    clear t4 t5 t6 nc4 nc5 nt T3 hc3
    have N8 := N4.then (sD.trans T6)
    refine ⟨_, N8.h, one, ix_ref (by omega), k1 _ _ ?_⟩
    clear k1
    obtain ⟨dz, gz, sz⟩ := get_row (by omega) h2 h3 h4 sm2 ez
    obtain ⟨dy, gy, sy⟩ := get_row (by omega) g2 g3 g4 sm1 ey
    obtain ⟨x1, x2, x3, r', ex, y0, y1, y2, y3, smr⟩ := set_row (f := f + 1) (y := z) (by omega) (by omega) g1 g2 g3 g4 gz sm1 sz
    rw [ex] at hT
    have N9 := N8.set (Same.refl _) one hT y0 y1 y2 y3 smr
    generalize upd H8 q0 (.lst ((as.map V.ref).set one (.ref t))) = H9 at N9
    clear hT ex y0 y1 y2 y3 smr N8 T6
    have l9 : (rs.set one r').length = rs.length := List.length_set ..
    obtain ⟨a3, r3, w0', w1', w2', w3', e3, at3, sm3, i0, i1, i2, i3, i4⟩ := N9.at_ (j := two) (by omega)
    refine seqI fun K1 k1 => ?_
    walk_at "rd"
    refine ⟨_, N9.h, _, at3, _, rfl, _, i0, fun l3 nl3 => k1 _ _ ?_⟩
    clear k1
    have u1 := same_new (o := .lst [w0', w1', w2', w3']) nl3
    have hl3 : (upd H9 l3 (.lst [w0', w1', w2', w3'])) l3 = some (.lst [w0', w1', w2', w3']) := upd_same
    generalize upd H9 l3 (.lst [w0', w1', w2', w3']) = H10 at u1 hl3
    refine seqI fun K1 k1 => ?_
    refine ifI fun A2 B2 ka kb => ?_
    walk_at "rd"
    have don : ∀ H2 as' rs', LTn H3 H2 q0 as' rs' L → rs'.length = rs.length → K1 [some (.ref b), some (.ref p), some (.int (n : Nat)), some (.int (one : Nat)), some (.int (two : Nat)), some (.int ((f + 1 : Nat) : Int)), some (.ref q0), some (.ref lr), some y, some (.ref l3)] H2 := fun H2 as' rs' N l => by
      refine k1 _ _ ?_
      walk_at "rd"
      exact q q0 as' rs' H2 (kp3.then N.s) N.lt l
    refine ite_i (fun g => ?_) (fun g => ?_)
    · refine kb _ (don _ _ _ (N9.then u1) l9)
    · refine ka _ ?_
      clear ka kb k1
      walk_at "rd"
      refine ⟨_, hl3, fun c1 nc1 => ⟨by decide, fun c2 nc2 => ?_⟩⟩
      have t1 := same_new (o := .lst (cutV [w0', w1', w2', w3'] none (some ((f + 1 : Nat) : Int)))) nc1
      have t2 := same_new (o := .lst [y]) nc2
      have hc1 := t2 _ _ (upd_same (H := H10) (a := c1) (o := .lst (cutV [w0', w1', w2', w3'] none (some ((f + 1 : Nat) : Int)))))
      rw [cutV_hi] at t1 t2 hc1 ⊢
      refine ⟨_, hc1, by simp; exact Nat.le_trans (by omega : _ ≤ 10) (by decide), fun c3 nc3 => ?_⟩
      have t3 := same_new (o := .lst ([w0', w1', w2', w3'].take (f + 1) ++ [y])) nc3
      have hc3 : (upd (upd (upd H10 c1 (.lst ([w0', w1', w2', w3'].take (f + 1)))) c2 (.lst [y])) c3 (.lst ([w0', w1', w2', w3'].take (f + 1) ++ [y]))) c3 = some (.lst ([w0', w1', w2', w3'].take (f + 1) ++ [y])) := upd_same
      have T3 := (t1.trans t2).trans t3
      generalize upd (upd (upd H10 c1 (.lst ([w0', w1', w2', w3'].take (f + 1)))) c2 (.lst [y])) c3 (.lst ([w0', w1', w2', w3'].take (f + 1) ++ [y])) = H11 at T3 hc3
      clear t1 t2 t3 hc1 nc1 nc2 nc3
      refine ⟨_, T3 _ _ hl3, fun c4 nc4 => ?_⟩
      rw [show (((f + 1 : Nat) : Int) + 1) = ((f + 1 + 1 : Nat) : Int) by omega, cutV_lo]
      have t4 := same_new (o := .lst ([w0', w1', w2', w3'].drop (f + 1 + 1))) nc4
      refine ⟨_, t4 _ _ hc3, bd _ _ (by simp; omega), ?_⟩
      rw [set_cut hf]
      intro c5 nc5 t' nt'
      have t5 := same_new (o := .lst ([w0', w1', w2', w3'].set (f + 1) y)) nc5
      have t6 := same_new (o := .tup ([w0', w1', w2', w3'].set (f + 1) y)) nt'
      have hT : (upd (upd (upd H11 c4 (.lst ([w0', w1', w2', w3'].drop (f + 1 + 1)))) c5 (.lst ([w0', w1', w2', w3'].set (f + 1) y))) t' (.tup ([w0', w1', w2', w3'].set (f + 1) y))) t' = some (.tup ([w0', w1', w2', w3'].set (f + 1) y)) := upd_same
      have T6 := ((T3.trans t4).trans t5).trans t6
      generalize upd (upd (upd H11 c4 (.lst ([w0', w1', w2', w3'].drop (f + 1 + 1)))) c5 (.lst ([w0', w1', w2', w3'].set (f + 1) y))) t' (.tup ([w0', w1', w2', w3'].set (f + 1) y)) = H12 at T6 hT
      have N12 := N9.then (u1.trans T6)
      obtain ⟨x1, x2, x3, r', ex, y0, y1, y2, y3, smr⟩ := set_row (f := f + 1) (y := y) (by omega) (by omega) i1 i2 i3 i4 gy sm3 sy
      rw [ex] at hT
      refine ⟨_, N12.h, two, ?_, don _ _ _ (N12.set (Same.refl _) two hT y0 y1 y2 y3 smr) (by rw [List.length_set]; exact l9)⟩
      exact ix_ref (by rw [List.length_set]; omega)
end
section
variable {P : Program} {w : World} {K : PySem.W.Frag} {mg : Str → Option Value} {base : Heap}
theorem ok__law_changed (S : Src K mg "_law_changed" s__law_changed) (T : Tx P K mg) (C__law_pick : Cal P w K mg base CX0 1 "_law_pick" ["_law_bag_here", "_law_many"] spPick) (C__law_first_bad : Cal P w K mg base CX0 3 "_law_first_bad" ["_law_told"] spLFirst) (C__law_ringed : Cal P w K mg base CX0 3 "_law_ringed" ["_law_bag_here", "_law_told"] spLRinged) (C__law_exchanged : Cal P w K mg base CX0 2 "_law_exchanged" ["_law_bag_here", "_law_told"] spLExch) (C__law_odd : Cal P w K mg base CX0 3 "_law_odd" ["_law_bag_here", "_law_many"] spLOddG) (C__law_odd_marks : Cal P w K mg base CX0 3 "_law_odd_marks" ["_law_bag_here", "_law_marks"] spLOddM)  : Cal P w K mg base CX0 4 "_law_changed" ["_law_bag_here", "_law_told"] spLChanged := by
  refine S.cal sc__law_changed bn__law_changed (fun vs H Q E h => ?_) (fun f cdv A outer s H vs Q E hr h => ?_)
  · first | (obtain ⟨rfl, _⟩ := h; rfl) | (obtain ⟨_, rfl, _⟩ := h; rfl) | (obtain ⟨_, _, rfl, _⟩ := h; rfl) | (obtain ⟨_, _, _, rfl, _⟩ := h; rfl) | (obtain ⟨_, _, _, _, rfl, _⟩ := h; rfl) | (obtain ⟨_, _, _, _, _, rfl, _⟩ := h; rfl) | (obtain ⟨_, _, _, _, _, _, rfl, _⟩ := h; rfl) | (obtain ⟨_, _, _, _, _, _, _, rfl, _⟩ := h; rfl) | (obtain ⟨_, _, _, _, _, _, _, _, rfl, _⟩ := h; rfl) | (obtain ⟨_, _, _, _, _, _, _, _, _, rfl, _⟩ := h; rfl) | (obtain ⟨_, _, _, _, _, _, _, _, _, _, rfl, _⟩ := h; rfl) | (obtain ⟨_, _, _, _, _, _, _, _, _, _, _, rfl, _⟩ := h; rfl) | (obtain ⟨_, _, _, _, _, _, _, _, _, _, _, _, rfl, _⟩ := h; rfl)
  · skip
    refine ⟨_, (pss_cons (ps_set (i := 2) sc__law_changed.nd rfl (Or.inl rfl) (Fx.pe_cB Fx.len_L T.b_len (by decide +kernel) (Fx.pa_c (pv 1) pa_nil)))
        (pss_cons (ps_set (i := 3) sc__law_changed.nd rfl (Or.inl rfl) (Fx.pe_cal C__law_pick (hr.mono (by decide)) pass0 (Fx.pa_c (pv 0) (Fx.pa_c pe_int pa_nil))))
        (pss_cons (ps_if (PW.pt (pw_and (pt_cmpR op_eq (pv 3) pe_int (nomark _)) (pw_and1 (pt_cmpR op_eq (Fx.pe_cal C__law_first_bad (hr.mono (by decide)) pass0 (Fx.pa_c (pv 1) pa_nil)) pe_int (nomark _))))) (pss_one (ps_ret (Fx.pe_cal C__law_ringed (hr.mono (by decide)) pass0 (Fx.pa_c (pv 0) (Fx.pa_c (pv 1) pa_nil))))) pss_nil)
        (pss_cons (ps_if (pt_cmpR op_eq (pv 3) pe_int (nomark _)) (pss_one (ps_ret (Fx.pe_cal C__law_exchanged (hr.mono (by decide)) pass0 (Fx.pa_c (pv 0) (Fx.pa_c (pv 1) pa_nil))))) pss_nil)
        (pss_cons (ps_set (i := 4) sc__law_changed.nd rfl (Or.inl rfl) (Fx.pe_cal C__law_pick (hr.mono (by decide)) pass0 (Fx.pa_c (pv 0) (Fx.pa_c (pv 2) pa_nil))))
        (pss_cons (ps_set (i := 5) sc__law_changed.nd rfl (Or.inl rfl) (Fx.pe_cTy Fx.list_T T.b_list (by decide +kernel) (Fx.pa_c (pe_ix Fx.ix_L (pv 1) (pv 4) (fun _ _ => rfl)) pa_nil)))
        (pss_cons (ps_if (pt_cmpR op_lt (pv 3) pe_int (nomark _)) (pss_cons (ps_set (i := 6) sc__law_changed.nd rfl (Or.inl rfl) (pe_op op_add pe_int (Fx.pe_cal C__law_pick (hr.mono (by decide)) pass0 (Fx.pa_c (pv 0) (Fx.pa_c pe_int pa_nil)))))
        (pss_one (ps_asg (Fx.pe_cal C__law_pick (hr.mono (by decide)) pass0 (Fx.pa_c (pv 0) (Fx.pa_c (pe_op op_add (pv 2) pe_int) pa_nil))) (pg_sub (pv 5) (pv 6) set_list)))) (pss_one (ps_if (pt_cmpR op_eq (pv 3) pe_int (nomark _)) (pss_cons (ps_set (i := 6) sc__law_changed.nd rfl (Or.inl rfl) (pe_op op_add pe_int (Fx.pe_cal C__law_pick (hr.mono (by decide)) pass0 (Fx.pa_c (pv 0) (Fx.pa_c pe_int pa_nil)))))
        (pss_one (ps_asg (Fx.pe_cal C__law_odd (hr.mono (by decide)) pass0 (Fx.pa_c (pv 0) (Fx.pa_c (pv 2) pa_nil))) (pg_sub (pv 5) (pv 6) set_list)))) (pss_one (ps_if (pt_val (Fx.pe_cB Fx.is_B T.b_isinstance (by decide +kernel) (Fx.pa_c (pe_ix Fx.ix_L (pv 5) pe_int (fun _ _ => rfl)) (Fx.pa_c (pe_bltn (v := .ty "tuple") (by rfl) T.b_tuple (by decide +kernel) rfl) pa_nil)))) (pss_one (ps_asg (Fx.pe_cal C__law_odd_marks (hr.mono (by decide)) pass0 (Fx.pa_c (pv 0) (Fx.pa_c (pe_ix Fx.ix_L (pv 5) pe_int (fun _ _ => rfl)) pa_nil))) (pg_sub (pv 5) pe_int set_list))) pss_nil)))))
        (pss_cons (ps_set (i := 7) sc__law_changed.nd rfl (Or.inl rfl) (Fx.pe_cTy Fx.list_L T.b_list (by decide +kernel) (Fx.pa_c (pv 1) pa_nil)))
        (pss_cons (ps_asg (Fx.pe_cTy Fx.tup_L T.b_tuple (by decide +kernel) (Fx.pa_c (pv 5) pa_nil)) (pg_sub (pv 7) (pv 4) set_list))
        (pss_one (ps_ret (pv 7)))))))))))), ?_⟩
    obtain ⟨b, p, as, rs, L, rfl, hB, R, n1, n60, L32, L39, q⟩ := h
    obtain ⟨n, en⟩ : ∃ n, n = rs.length := ⟨_, rfl⟩
    refine seqI fun K1 k1 => ?_
    walk_at "rd"
    refine ⟨_, R.h, k1 _ _ ?_⟩
    clear k1
    rw [show (((as.map V.ref).length : Nat) : Int) = (n : Nat) by rw [List.length_map, R.la, en]]
    refine seqI fun K1 k1 => ?_
    walk_at "rd"
    refine ⟨b, _, rfl, hB, by decide, by decide, fun way H1 w0 w1 kp1 => k1 _ _ ?_⟩
    clear k1
    have R1 := R.kp hB kp1
    have B1 := kp1.bag
    refine seqI fun K1 k1 => ?_
    refine ifI fun A2 B2 ka kb => ?_
    walk_at "rd"
    have go : ∀ H2, Same H1 H2 → B2 H2 := by
      intro H2 s2
      refine kb _ (k1 _ _ ?_)
      clear ka kb k1
      have R2 := R1.same s2
      have kp2 := kp1.then s2
      have B2b := kp2.bag
      refine seqI fun K1 k1 => ?_
      refine ifI fun A2 B2 ka kb => ?_
      walk_at "rd"
      refine ite_i (fun g => ka _ ?_) (fun g => kb _ (k1 _ _ ?_))
      · clear ka kb k1
        walk_at "rd"
        exact ⟨b, p, as, rs, L, rfl, kp2.bag, R2, n1, n60, fun q0 as' rs' H3 kp3 R3 l3 => q q0 as' rs' H3 (kp2.trans kp3) (R3.mono (by omega)) l3⟩
      clear ka kb k1
      refine seqI fun K1 k1 => ?_
      walk_at "rd"
      refine ⟨b, _, rfl, kp2.bag, by omega, by omega, fun j H3 j0 j1 kp3 => k1 _ _ ?_⟩
      clear k1
      obtain ⟨j, rfl⟩ := ni_nat j0
      have R3 := R2.kp B2b kp3
      have kp3 := kp2.trans kp3
      have B3 := kp3.bag
      have la := R.la
      have hj : j < rs.length := by omega
      have e1 := List.getElem?_eq_getElem hj
      have a1 := List.getElem?_eq_getElem (by omega : j < as.length)
      obtain ⟨v0, v1, v2, v3, g0, g1, g2, g3, g4⟩ := R3.row j _ _ a1 e1
      have smj := R.sm _ (List.getElem_mem hj)
      refine seqI fun K1 k1 => ?_
      walk_at "rd"
      refine ⟨_, R3.h, _, atI_get (i := j) (by rw [List.getElem?_map, a1]; rfl), _, rfl, _, g0, fun lr nlr => k1 _ _ ?_⟩
      clear k1
      have nlrH : H lr = none := kp3.free nlr
      have sl := same_new (o := .lst [v0, v1, v2, v3]) nlr
      have hl4 : (upd H3 lr (.lst [v0, v1, v2, v3])) lr = some (.lst [v0, v1, v2, v3]) := upd_same
      have k34 := Kp.same B3 sl
      generalize upd H3 lr (.lst [v0, v1, v2, v3]) = H4 at sl hl4 k34
      refine seqI fun K1 k1 => ?_
      have fin : ∀ (vf : Option V) (x0 x1 x2 x3 : V) (r' : BR) (H5 : Hp), Kp b H H5 → LT H5 p as rs L → H5 lr = some (.lst [x0, x1, x2, x3]) → Dv H5 x0 r'.1 → Dv H5 x1 r'.2.1 → Dv H5 x2 r'.2.2.1 → Dv H5 x3 r'.2.2.2 → RowS (L + 1) r' → K1 [some (.ref b), some (.ref p), some (.int (n : Nat)), some (.int way), some (.int (j : Nat)), some (.ref lr), vf, none] H5 := by
        intro vf x0 x1 x2 x3 r' H5 kp5 R5 hl5 y0 y1 y2 y3 sm5
        refine k1 _ _ ?_
        clear k1
        refine seqI fun K1 k1 => ?_
        walk_at "rd"
        refine ⟨_, R5.h, fun q0 nq0 => k1 _ _ ?_⟩
        clear k1
        have N6 := LTn.new R5 nq0
        generalize upd H5 q0 (.lst (as.map V.ref)) = H6 at N6
        refine seqI fun K1 k1 => ?_
        walk_at "rd"
        refine ⟨_, N6.s _ _ hl5, fun t nt => ⟨_, same_new nt _ _ N6.h, j, ix_ref (by omega), k1 _ _ ?_⟩⟩
        have N7 := (N6.mono (Nat.le_succ L)).set (same_new (o := .tup [x0, x1, x2, x3]) nt) j upd_same y0 y1 y2 y3 sm5
        walk_at "rd"
        have R7 := N7.lt
        exact q q0 _ _ _ (kp5.then N7.s) R7 (List.length_set ..)
      refine ifI fun A2 B2 ka kb => ?_
      walk_at "rd"
      refine ite_i (fun gw => ka _ ?_) (fun gw => ?_)
      · clear ka kb
        refine seqI fun K1 k1 => ?_
        walk_at "rd"
        refine ⟨b, _, rfl, k34.bag, by decide, by decide, fun f H5 f0 f1 kp5 => ⟨f, rfl, k1 _ _ ?_⟩⟩
        clear k1
        obtain ⟨f, rfl⟩ := ni_nat f0
        walk_at "rd"
        refine ⟨b, _, rfl, kp5.bag, by omega, by omega, fun m H6 m0 m1 kp6 => ?_⟩
        obtain ⟨m, rfl⟩ := ni_nat m0
        have k36 := k34.trans (kp5.trans kp6)
        have hl6 := (kp5.trans kp6).lst k34.bag hl4
        have R6 : LT (upd H6 lr (.lst ([v0, v1, v2, v3].set (f + 1) (.int (m : Nat))))) p as rs L := R3.kp B3 (Kp.put B3 k36 nlr)
        have kpp : Kp b H3 (upd H6 lr (.lst ([v0, v1, v2, v3].set (f + 1) (.int (m : Nat))))) := Kp.put B3 k36 nlr
        obtain ⟨x1, x2, x3, r', ex, y0, y1, y2, y3, smr⟩ := set_row (H := upd H6 lr (.lst ([v0, v1, v2, v3].set (f + 1) (.int (m : Nat))))) (f := f + 1) (y := .int (m : Nat)) (d := .int (m : Nat)) (by omega) (by omega) (g1.kp B3 kpp) (g2.kp B3 kpp) (g3.kp B3 kpp) (g4.kp B3 kpp) (.int _) smj (sm_i (by omega) (by omega))
        refine ⟨_, hl6, f + 1, ?_, ?_⟩
        · unfold ixN
          rw [if_pos (by omega), if_pos (by simp only [List.length_cons, List.length_nil]; omega)]
          congr 1
          omega
        exact fin _ v0 x1 x2 x3 r' _ (kp3.trans kpp) R6 (by rw [upd_same, ex]) y0 y1 y2 y3 (smr.mono (Nat.le_succ L))
      · clear ka
        refine kb _ ?_
        clear kb
        refine ifI fun A2 B2 ka kb => ?_
        walk_at "rd"
        refine ite_i (fun gw => ka _ ?_) (fun gw => ?_)
        · clear ka kb
          refine seqI fun K1 k1 => ?_
          walk_at "rd"
          refine ⟨b, _, rfl, k34.bag, by decide, by decide, fun f H5 f0 f1 kp5 => ⟨f, rfl, k1 _ _ ?_⟩⟩
          clear k1
          obtain ⟨f, rfl⟩ := ni_nat f0
          walk_at "rd"
          refine ⟨b, _, rfl, kp5.bag, by omega, fun m dm H6 kp6 hm sdm => ?_⟩
          have k36 := k34.trans (kp5.trans kp6)
          have hl6 := (kp5.trans kp6).lst k34.bag hl4
          have kpp : Kp b H3 (upd H6 lr (.lst ([v0, v1, v2, v3].set (f + 1) m))) := Kp.put B3 k36 nlr
          have R6 : LT (upd H6 lr (.lst ([v0, v1, v2, v3].set (f + 1) m))) p as rs L := R3.kp B3 kpp
          have hm' : Dv (upd H6 lr (.lst ([v0, v1, v2, v3].set (f + 1) m))) m dm := Dv.mapT (fun a xs e => by rw [upd_ne (ne_of e hl6 (by intro z; cases z))]; exact e) dm m sdm.n hm
          obtain ⟨x1, x2, x3, r', ex, y0, y1, y2, y3, smr⟩ := set_row (H := upd H6 lr (.lst ([v0, v1, v2, v3].set (f + 1) m))) (f := f + 1) (y := m) (d := dm) (by omega) (by omega) (g1.kp B3 kpp) (g2.kp B3 kpp) (g3.kp B3 kpp) (g4.kp B3 kpp) hm' smj sdm
          refine ⟨_, hl6, f + 1, ?_, ?_⟩
          · unfold ixN
            rw [if_pos (by omega), if_pos (by simp only [List.length_cons, List.length_nil]; omega)]
            congr 1
            omega
          exact fin _ v0 x1 x2 x3 r' _ (kp3.trans kpp) R6 (by rw [upd_same, ex]) y0 y1 y2 y3 (smr.mono (Nat.le_succ L))
        clear ka
        refine kb _ ?_
        clear kb
        refine ifI fun A2 B2 ka kb => ?_
        walk_at "rd"
        have g1' := g1.same sl
        obtain ⟨tt, ht, hk⟩ := g1'.tpd
        refine ⟨_, hl4, _, rfl, tt, ht, _, hk, ?_⟩
        have R4 := R3.same sl
        cases hT : isTp rs[j].1 with
        | false =>
          rw [if_neg (by decide)]
          refine kb _ ?_
          walk_at "rd"
          exact fin _ v0 v1 v2 v3 rs[j] _ (kp3.then sl) R4 hl4 g1' (g2.same sl) (g3.same sl) (g4.same sl) (smj.mono (Nat.le_succ L))
        | true =>
          rw [if_pos rfl]
          refine ka _ ?_
          clear ka kb
          obtain ⟨ds, e2⟩ : ∃ ds, rs[j].1 = .tuple ds := by
            cases e2 : rs[j].1 with
            | tuple ds => exact ⟨ds, rfl⟩
            | _ => rw [e2] at hT; cases hT
          obtain ⟨pm, rfl⟩ : ∃ pm, v0 = .ref pm := by
            rw [e2] at g1'
            cases g1'
            exact ⟨_, rfl⟩
          walk_at "rd"
          refine ⟨_, hl4, _, rfl, b, pm, ds, L, rfl, k34.bag, by rw [← e2]; exact g1', by rw [← e2]; exact smj.m, by omega, fun m dm H6 kp6 hm okm => ?_⟩
          have hl6 := kp6.lst k34.bag hl4
          have kpp : Kp b H3 (upd H6 lr (.lst [m, v1, v2, v3])) := Kp.put B3 (k34.trans kp6) nlr
          have hm' : Dv (upd H6 lr (.lst [m, v1, v2, v3])) m dm := hm _ (fun a xs e => by rw [upd_ne (ne_of e hl6 (by intro z; cases z))]; exact e) fun a xs na e => by rw [upd_ne (fun z => by rw [z, hl4] at na; cases na)]; exact e
          refine ⟨_, hl6, 0, rfl, ?_⟩
          exact fin _ m v1 v2 v3 (dm, rs[j].2) _ (kp3.trans kpp) (R3.kp B3 kpp) upd_same hm' (g2.kp B3 kpp) (g3.kp B3 kpp) (g4.kp B3 kpp) ⟨okm.mono (by omega), smj.h, smj.b, smj.f⟩
    refine ite_i (fun g => ?_) (fun g => go H1 (Same.refl _))
    refine ⟨p, as, rs, L, rfl, R1, n60, fun k H2 fb s2 => ⟨rfl, ?_⟩⟩
    by_cases k0 : k = 0
    · subst k0
      rw [if_pos (by rfl)]
      refine ka _ ?_
      clear ka kb k1 go
      walk_at "rd"
      have R2 := R1.same s2
      have kp2 := kp1.then s2
      exact ⟨b, p, as, rs, L, rfl, kp2.bag, R2, n1, n60, fb, fun q0 as' rs' H3 kp3 R3 l3 => q q0 as' rs' H3 (kp2.trans kp3) (R3.mono (by omega)) l3⟩
    · rw [if_neg (fun z => k0 (by have := V.int.inj z; omega))]
      exact go H2 s2
end
section
variable {P : Program} {w : World} {K : PySem.W.Frag} {mg : Str → Option Value} {base : Heap}
theorem ok__law_judged (S : Src K mg "_law_judged" s__law_judged) (T : Tx P K mg) (C_Tree_M_of : CalS P w K mg base (L2.CX P w) 5 (He.ga K "Tree") "of" ["rows"] (spOfG K)) (C_Tree_M_told : CalM P w K mg base CX0 1 (He.ga K "Tree") "told" ["self"] (spTold K)) (C_Tree_MU_lenU : CalM P w K mg base CX0 1 (He.ga K "Tree") "__len__" ["self"] (spLen K))  : CalG P w K mg base CX0 6 "_law_judged" ["_law_told"] spLJudged := by
  refine S.calG sc__law_judged bn__law_judged (fun vs H Q E h => ?_) (fun f cdv A outer s H vs Q E hG hr h => ?_)
  · first | (obtain ⟨rfl, _⟩ := h; rfl) | (obtain ⟨_, rfl, _⟩ := h; rfl) | (obtain ⟨_, _, rfl, _⟩ := h; rfl) | (obtain ⟨_, _, _, rfl, _⟩ := h; rfl) | (obtain ⟨_, _, _, _, rfl, _⟩ := h; rfl) | (obtain ⟨_, _, _, _, _, rfl, _⟩ := h; rfl) | (obtain ⟨_, _, _, _, _, _, rfl, _⟩ := h; rfl) | (obtain ⟨_, _, _, _, _, _, _, rfl, _⟩ := h; rfl) | (obtain ⟨_, _, _, _, _, _, _, _, rfl, _⟩ := h; rfl) | (obtain ⟨_, _, _, _, _, _, _, _, _, rfl, _⟩ := h; rfl) | (obtain ⟨_, _, _, _, _, _, _, _, _, _, rfl, _⟩ := h; rfl) | (obtain ⟨_, _, _, _, _, _, _, _, _, _, _, rfl, _⟩ := h; rfl) | (obtain ⟨_, _, _, _, _, _, _, _, _, _, _, _, rfl, _⟩ := h; rfl)
  · skip
    obtain ⟨p_Tree_M_of, f_Tree_M_of, fd_Tree_M_of, m_Tree_M_of, r_Tree_M_of, b_Tree_M_of, G_Tree_M_of⟩ := C_Tree_M_of.ex
    obtain ⟨f_Tree_M_told, fd_Tree_M_told, m_Tree_M_told, b_Tree_M_told, G_Tree_M_told⟩ := C_Tree_M_told.ex
    obtain ⟨f_Tree_MU_lenU, fd_Tree_MU_lenU, m_Tree_MU_lenU, b_Tree_MU_lenU, G_Tree_MU_lenU⟩ := C_Tree_MU_lenU.ex
    refine ⟨_, (pss_cons (ps_try_as (i := 2) rfl rfl sc__law_judged.nd rfl rfl ⟨rfl, by decide, Or.inl T.g_BadTree⟩ takes0 (fun W pn xe tk _ => (pss_one (ps_set (i := 1) sc__law_judged.nd rfl (Or.inl rfl) (Fx.pe_smethT (pe_glob (v := .ref (He.ga K "Tree")) rfl T.g_Tree rfl) r_Tree_M_of m_Tree_M_of G_Tree_M_of (hr.mono (by decide)) b_Tree_M_of tk (Fx.pa_c (pv 0) pa_nil))))) (fun a oe cls d pn hz hf => (pss_one (ps_ret (pe_lst (Fx.pa_c pe_str (Fx.pa_c (Fx.pe_cB (Fx.call_reprK (K := K) rfl hG hr.units) T.b_repr (by decide +kernel) (Fx.pa_c (pe_xf (XC.xfc T.x_BadTree) T.x_BadTree.noF hz hf (pv 2)) pa_nil)) (Fx.pa_c (pe_and (Fx.pe_cB (call_isY hz hf) T.b_isinstance (by decide +kernel) (Fx.pa_c (pv 2) (Fx.pa_c (pe_glob (v := .ref (He.ga K "FableError")) rfl T.g_FableError rfl) pa_nil))) (pe_one (pe_not (Fx.pe_cB (call_isY hz hf) T.b_isinstance (by decide +kernel) (Fx.pa_c (pv 2) (Fx.pa_c (pe_glob (v := .ref (He.ga K "NoThing")) rfl T.g_NoThing rfl) pa_nil)))))) pa_nil))))))))
        (pss_one (ps_ret (pe_lst (Fx.pa_c pe_str (Fx.pa_c (Fx.pe_cB (Fx.call_reprK (K := K) rfl hG hr.units) T.b_repr (by decide +kernel) (Fx.pa_c (pe_meth0 (pv 1) T.cl_Tree m_Tree_M_told G_Tree_M_told (hr.mono (by decide)) b_Tree_M_told .nil pass0) pa_nil)) (Fx.pa_c (pe_cmpR op_eq (Fx.pe_cB (Fx.len_O C_Tree_MU_lenU (hr.mono (by decide)) pass0) T.b_len (by decide +kernel) (Fx.pa_c (pv 1) pa_nil)) (Fx.pe_cB Fx.len_Q T.b_len (by decide +kernel) (Fx.pa_c (pv 0) pa_nil)) (nomark _)) pa_nil))))))), ?_⟩
    obtain ⟨p, as, rs, L, rfl, R, sm, n1, n60, q⟩ := h
    refine seqI fun K1 k1 => ?_
    walk_at "rd"
    refine ⟨p, as, rs, rfl, R, n1, n60, fun k d H' k0 fb s nd hd => ?_, fun fb x A H' s fr T0 => k1 _ _ ?_⟩
    · clear k1
      refine ⟨true, T.m_TT, fun _ a0 na => ?_, fun z => Bool.noConfusion z⟩
      have efs : ∃ fs, H' d = some (.xd fs) := ⟨_, hd⟩
      walk_at "rd"
      simp only [rIsY, tXf, rRepr]
      walk_at "rd"
      simp only [Value.ref.injEq, exists_eq_left', clsVal, Option.some.injEq, T.e_BadTree, T.k_TF, T.k_TN, true_and, Bool.not_true, Bool.not_false, Bool.false_eq_true, if_false, hd, HO.xd.injEq, exists_eq_left, exists_eq', List.lookup, beq_self_eq_true]
      have S1 := shw_int (K := K) (H := H') (i := (k : Nat)) (by omega) (by have := fb_le fb; omega)
      refine ⟨_, S1.dp, S1.sh, S1.nd, S1.dep, S1.len, ?_⟩
      rw [if_pos trivial]
      refine ⟨by decide, fun q0 n0 => q k q0 _ fb (s.trans (same_new n0)) (s.free n0) ?_⟩
      rw [ansW, ansZ, if_neg k0, if_neg k0]
      exact upd_same
    · clear k1
      have ok := fb_ok fb n1 n60
      obtain ⟨all, am⟩ := fb.good
      have T0 : TreeAt K H' x A (trB rs) := T0
      obtain ⟨dx, hx⟩ := T0.ins
      walk_at "rd"
      refine ⟨_, _, hx, rfl, x, A, trB rs, rfl, T0, ok, fun p1 H1 s1 np1 td => ?_⟩
      have dp1 := td.dp (K := K)
      rw [toldD_B, rowsB_eq all] at dp1
      have S1 := (sm_told sm n60).shw dp1 (by decide) (by decide)
      have hx1 := s1 _ _ hx
      refine ⟨_, S1.dp, S1.sh, S1.nd, S1.dep, S1.len, _, _, hx1, x, A, trB rs, rfl, T0.same s1, ok, fun H2 s2 => ⟨_, rfl, by omega, by have := ok.n60; omega, as.map V.ref, ?_⟩⟩
      have s02 := (s.trans s1).trans s2
      refine ⟨sq_same R.h s02, by decide, fun q0 n0 => q 0 q0 _ fb (s02.trans (same_new n0)) (s02.free n0) ?_⟩
      rw [upd_same, trB_n, List.length_map, R.la, decide_eq_true rfl]
      rfl
end
section
variable {P : Program} {w : World} {K : PySem.W.Frag} {mg : Str → Option Value} {base : Heap}
theorem ok__law_due (S : Src K mg "_law_due" s__law_due) (T : Tx P K mg) (C__law_first_bad : Cal P w K mg base CX0 3 "_law_first_bad" ["_law_told"] spLFirst)  : CalG P w K mg base CX0 4 "_law_due" ["_law_told"] spLDue := by
  refine S.calG sc__law_due bn__law_due (fun vs H Q E h => ?_) (fun f cdv A outer s H vs Q E hG hr h => ?_)
  · first | (obtain ⟨rfl, _⟩ := h; rfl) | (obtain ⟨_, rfl, _⟩ := h; rfl) | (obtain ⟨_, _, rfl, _⟩ := h; rfl) | (obtain ⟨_, _, _, rfl, _⟩ := h; rfl) | (obtain ⟨_, _, _, _, rfl, _⟩ := h; rfl) | (obtain ⟨_, _, _, _, _, rfl, _⟩ := h; rfl) | (obtain ⟨_, _, _, _, _, _, rfl, _⟩ := h; rfl) | (obtain ⟨_, _, _, _, _, _, _, rfl, _⟩ := h; rfl) | (obtain ⟨_, _, _, _, _, _, _, _, rfl, _⟩ := h; rfl) | (obtain ⟨_, _, _, _, _, _, _, _, _, rfl, _⟩ := h; rfl) | (obtain ⟨_, _, _, _, _, _, _, _, _, _, rfl, _⟩ := h; rfl) | (obtain ⟨_, _, _, _, _, _, _, _, _, _, _, rfl, _⟩ := h; rfl) | (obtain ⟨_, _, _, _, _, _, _, _, _, _, _, _, rfl, _⟩ := h; rfl)
  · skip
    refine ⟨_, (pss_cons (ps_set (i := 1) sc__law_due.nd rfl (Or.inl rfl) (Fx.pe_cal C__law_first_bad (hr.mono (by decide)) pass0 (Fx.pa_c (pv 0) pa_nil)))
        (pss_cons (ps_if (pt_cmpR op_gt (pv 1) pe_int (nomark _)) (pss_one (ps_ret (pe_lst (Fx.pa_c pe_str (Fx.pa_c (Fx.pe_cB (Fx.call_reprK (K := K) rfl hG hr.units) T.b_repr (by decide +kernel) (Fx.pa_c (pv 1) pa_nil)) (Fx.pa_c pe_bl pa_nil)))))) pss_nil)
        (pss_one (ps_ret (pe_lst (Fx.pa_c pe_str (Fx.pa_c (Fx.pe_cB (Fx.call_reprK (K := K) rfl hG hr.units) T.b_repr (by decide +kernel) (Fx.pa_c (Fx.pe_cTy Fx.tup_L T.b_tuple (by decide +kernel) (Fx.pa_c (pv 0) pa_nil)) pa_nil)) (Fx.pa_c pe_bl pa_nil)))))))), ?_⟩
    obtain ⟨p, as, rs, L, rfl, R, n1, n60, q⟩ := h
    refine seqI fun K1 k1 => ?_
    walk_at "rd"
    refine ⟨p, as, rs, L, rfl, R, n60, fun k H1 fb s1 => k1 _ _ ?_⟩
    clear k1
    refine seqI fun K1 k1 => ?_
    refine ifI fun A2 B2 ka kb => ?_
    walk_at "rd"
    by_cases k0 : k = 0
    · subst k0
      rw [if_neg (by omega)]
      refine kb _ (k1 _ _ ?_)
      clear ka kb k1
      walk_at "rd"
      have R1 := R.same s1
      refine ⟨_, R1.h, fun t nt => ?_⟩
      have R2 := R1.same (same_new (o := .tup (as.map V.ref)) nt)
      have S1 := shw_told (K := K) (upd_same (H := H1) (a := t) (o := .tup (as.map V.ref))) R2.la R2.row R2.sm n60
      have s2 := s1.trans (same_new (o := .tup (as.map V.ref)) nt)
      exact ⟨_, S1.dp, S1.sh, S1.nd, S1.dep, S1.len, by decide, fun q0 n0 => q 0 q0 _ fb (s2.trans (same_new n0)) (s2.free n0) upd_same⟩
    · rw [if_pos (by omega)]
      refine ka _ ?_
      walk_at "rd"
      have S1 := shw_int (K := K) (H := H1) (i := (k : Nat)) (by omega) (by have := fb_le fb; omega)
      refine ⟨_, S1.dp, S1.sh, S1.nd, S1.dep, S1.len, by decide, fun q0 n0 => q k q0 _ fb (s1.trans (same_new n0)) (s1.free n0) ?_⟩
      rw [ansW, ansZ, if_neg k0, if_neg k0]
      exact upd_same
end
section
variable {P : Program} {w : World} {K : PySem.W.Frag} {mg : Str → Option Value} {base : Heap}
theorem ok__law_first_bad_pair (S : Src K mg "_law_first_bad_pair" s__law_first_bad_pair) (T : Tx P K mg) (C__law_integer : Cal P w K mg base CX0 1 "_law_integer" ["_law_thing"] spIntegerG)  : Cal P w K mg base CX0 2 "_law_first_bad_pair" ["_law_pairs"] spLFirstP := by
  refine S.cal sc__law_first_bad_pair bn__law_first_bad_pair (fun vs H Q E h => ?_) (fun f cdv A outer s H vs Q E hr h => ?_)
  · first | (obtain ⟨rfl, _⟩ := h; rfl) | (obtain ⟨_, rfl, _⟩ := h; rfl) | (obtain ⟨_, _, rfl, _⟩ := h; rfl) | (obtain ⟨_, _, _, rfl, _⟩ := h; rfl) | (obtain ⟨_, _, _, _, rfl, _⟩ := h; rfl) | (obtain ⟨_, _, _, _, _, rfl, _⟩ := h; rfl) | (obtain ⟨_, _, _, _, _, _, rfl, _⟩ := h; rfl) | (obtain ⟨_, _, _, _, _, _, _, rfl, _⟩ := h; rfl) | (obtain ⟨_, _, _, _, _, _, _, _, rfl, _⟩ := h; rfl) | (obtain ⟨_, _, _, _, _, _, _, _, _, rfl, _⟩ := h; rfl) | (obtain ⟨_, _, _, _, _, _, _, _, _, _, rfl, _⟩ := h; rfl) | (obtain ⟨_, _, _, _, _, _, _, _, _, _, _, rfl, _⟩ := h; rfl) | (obtain ⟨_, _, _, _, _, _, _, _, _, _, _, _, rfl, _⟩ := h; rfl)
  · skip
    refine ⟨_, (pss_cons (ps_set (i := 1) sc__law_first_bad_pair.nd rfl (Or.inl rfl) (Fx.pe_cB Fx.len_L T.b_len (by decide +kernel) (Fx.pa_c (pv 0) pa_nil)))
        (pss_cons (ps_for PassesOwn.never rfl (pi_range2 rfl T.b_range (Fx.pa_c pe_int (Fx.pa_c (pe_op op_add (pv 1) pe_int) pa_nil))) (pg_name (i := 2) sc__law_first_bad_pair.nd rfl (Or.inl rfl)) (pss_cons (ps_asg (pe_ix Fx.ix_L (pv 0) (pe_op op_sub (pv 2) pe_int) (fun _ _ => rfl)) (pg_tup rfl (pgs_cons (pg_name (i := 3) sc__law_first_bad_pair.nd rfl (Or.inl rfl)) (pgs_cons (pg_name (i := 4) sc__law_first_bad_pair.nd rfl (Or.inl rfl)) pgs_nil))))
        (pss_cons (ps_if (PW.pt (pw_or (pt_not (pt_val (Fx.pe_cal C__law_integer (hr.mono (by decide)) pass0 (Fx.pa_c (pv 3) pa_nil)))) (pw_or (pt_cmpR op_lt (pv 3) pe_int (nomark _)) (pw_or (pt_cmpR op_gt (pv 3) (pv 1) (nomark _)) (pw_or1 (pt_not (pt_val (Fx.pe_cB Fx.is_B T.b_isinstance (by decide +kernel) (Fx.pa_c (pv 4) (Fx.pa_c (pe_bltn (v := .ty "tuple") (by rfl) T.b_tuple (by decide +kernel) rfl) pa_nil)))))))))) (pss_one (ps_ret (pv 2))) pss_nil)
        (pss_one (ps_if (pt_cmpR (op_neD hr.units) (pe_lc (own := [("_law_mark", 7)]) rfl sc__law_first_bad_pair.nd (pi_tup (pv 4)) (blkOk_by (N := N__law_first_bad_pair) (sc := defScope s__law_first_bad_pair) (by decide +kernel)) (fun _ _ _ _ _ => (pg_name (i := 7) sc__law_first_bad_pair.nd rfl (Or.inl rfl))) (fun _ _ _ _ _ => (pts_one (PW.pt (pw_or (pt_not (pt_val (Fx.pe_cal C__law_integer (hr.mono (by decide)) pass0 (Fx.pa_c (pv 7) pa_nil)))) (pw_or (pt_cmpR op_lt (pv 7) pe_int (nomark _)) (pw_or1 (pt_cmpR op_gt (pv 7) pe_int (nomark _)))))))) (fun _ _ _ _ _ => (pv 7))) (pe_lst pa_nil) (nomark _)) (pss_one (ps_ret (pv 2))) pss_nil)))))
        (pss_cons (ps_for PassesOwn.never rfl (pi_range2 rfl T.b_range (Fx.pa_c pe_int (Fx.pa_c (pe_op op_add (pv 1) pe_int) pa_nil))) (pg_name (i := 2) sc__law_first_bad_pair.nd rfl (Or.inl rfl)) (pss_cons (ps_set (i := 5) sc__law_first_bad_pair.nd rfl (Or.inl rfl) (pe_ix Fx.ix_T (pe_ix Fx.ix_L (pv 0) (pe_op op_sub (pv 2) pe_int) (fun _ _ => rfl)) pe_int (fun _ _ => rfl)))
        (pss_cons (ps_for PassesOwn.never rfl (pi_range1 rfl T.b_range (Fx.pa_c (pv 1) pa_nil)) (pg_name (i := 6) sc__law_first_bad_pair.nd rfl (Or.inl rfl)) (pss_one (ps_if (PW.pt (pw_and (pt_cmpR op_ne (pv 5) pe_int (nomark _)) (pw_and1 (pt_cmpR op_ne (pv 5) (pv 2) (nomark _))))) (pss_one (ps_set (i := 5) sc__law_first_bad_pair.nd rfl (Or.inl rfl) (pe_ix Fx.ix_T (pe_ix Fx.ix_L (pv 0) (pe_op op_sub (pv 5) pe_int) (fun _ _ => rfl)) pe_int (fun _ _ => rfl)))) pss_nil)))
        (pss_one (ps_if (pt_cmpR op_eq (pv 5) (pv 2) (nomark _)) (pss_one (ps_ret (pv 2))) pss_nil)))))
        (pss_one (ps_ret pe_int))))), ?_⟩
    obtain ⟨p, as, rs, L, rfl, R, n60, L40, q⟩ := h
    obtain ⟨n, en⟩ : ∃ n, n = rs.length := ⟨_, rfl⟩
    refine seqI fun K1 k1 => ?_
    walk_at "rd"
    refine ⟨_, R.h, k1 _ _ ?_⟩
    clear k1
    rw [show (((as.map V.ref).length : Nat) : Int) = (n : Nat) by rw [List.length_map, R.la, en]]
    have la := R.la
    refine seqI fun K0 k0 => ?_
    refine forI fun R0 hR => ?_
    walk_at "rd"
    refine ⟨by decide, by decide, by omega, by omega, hR _ _ ?_⟩
    clear hR
    rw [show ((n : Int) + 1 - 1).toNat = n by omega]
    refine for_range (lo := 1) (n := n) (fun i σ H' => ∃ v2 v3 v4 v5 : Option V, σ = [some (.ref p), some (.int (n : Nat)), v2, v3, v4, v5, none, none] ∧ Same H H' ∧ ∀ j q, j < i → rs[j]? = some q → PairG rs.length q) ⟨_, _, _, _, rfl, Same.refl H, fun j q h => by omega⟩ ?_ ?_
    · rintro i σ H' hi ⟨v2, v3, v4, v5, rfl, s1, pre⟩
      have hj : i < rs.length := by omega
      have ei : (1 : Int) + (i : Nat) - 1 = (i : Nat) := by omega
      have ei2 : (1 : Int) + (i : Nat) = ((i + 1 : Nat) : Int) := by omega
      have e1 := List.getElem?_eq_getElem hj
      have a1 := List.getElem?_eq_getElem (by omega : i < as.length)
      obtain ⟨w0, w1, g0, g1, g2⟩ := R.row i _ _ a1 e1
      refine seqI fun K1 k1 => ?_
      walk_at "rd"
      rw [ei]
      refine ⟨_, s1 _ _ R.h, _, atI_get (i := i) (by rw [List.getElem?_map, a1]; rfl), _, rfl, _, .inl (.inl (s1 _ _ g0)), rfl, _, _, rfl, _, _, rfl, rfl, k1 _ _ ?_⟩
      clear k1
      refine seqI fun K1 k1 => ?_
      have bad : ¬ PairG rs.length rs[i] → ∀ H2, Same H H2 → Q (.int ((i + 1 : Nat) : Int)) H2 := fun no H2 s2 => q (i + 1) H2 (.inr ⟨i, rs[i], e1, rfl, no, pre⟩) s2
      refine ifI fun A2 B2 ka kb => ?_
      walk_at "rd"
      have no : ¬ PairG rs.length rs[i] → A2 H' := fun no => ka _ (by
        walk_at "rd"
        rw [ei2]
        exact bad no H' s1)
      refine ⟨w0, _, rfl, g1.same s1, ⟨_, rfl, ?_⟩⟩
      have noI : isI 0 rs.length rs[i].1 = false → A2 H' := fun e => no fun z => by
        have z := z.1
        rw [e] at z
        cases z
      cases hI : isIn rs[i].1 with
      | false =>
        rw [if_pos (by decide)]
        exact noI (isIn_isI hI _ _)
      | true =>
        rw [if_neg (by decide)]
        obtain ⟨m, d1, rfl⟩ : ∃ m, rs[i].1 = .int m ∧ w0 = .int m := by
          cases d1 : rs[i].1 with
          | int m =>
            rw [d1] at g1
            cases g1
            exact ⟨m, rfl, rfl⟩
          | _ => rw [d1] at hI; cases hI
        refine ⟨m, rfl, ?_⟩
        refine ite_i (fun g => noI (by rw [d1]; exact decide_eq_false (by omega))) (fun m0 => ⟨m, rfl, ?_⟩)
        refine ite_i (fun g => noI (by rw [d1]; exact decide_eq_false (by omega))) (fun m1 => ?_)
        obtain ⟨t, ht, hk⟩ := (g2.same s1).tpd
        refine ⟨t, ht, _, hk, ?_⟩
        cases hT : isTp rs[i].2 with
        | false =>
          rw [if_pos (by decide)]
          exact no fun z => by
            have z := z.2
            cases e2 : rs[i].2 <;> rw [e2] at z hT <;> first | exact z.elim | cases hT
        | true =>
        rw [if_neg (by decide)]
        refine kb _ (k1 _ _ ?_)
        clear ka kb k1
        obtain ⟨ds, e2⟩ : ∃ ds, rs[i].2 = .tuple ds := by
          cases e2 : rs[i].2 with
          | tuple ds => exact ⟨ds, rfl⟩
          | _ => rw [e2] at hT; cases hT
        rw [e2] at g2
        cases g2 with
        | tup hmm hds =>
        rename_i mm xs
        refine ifI fun A2 B2 ka kb => ?_
        generalize hte : tVar 7 = te
        generalize hgg : gName 7 = gg
        generalize htt : (tOr (tNot (tB (tCall spIntegerG [] E0 (tCons te tNil)))) (tOr (tTest (tOp (rI0 fun i j => V.bl (decide (i < j))) te (tC (V.int 0)))) (tTest (tOp (rI0 fun i j => V.bl (decide (j < i))) te (tC (V.int 31)))))) = tt
        unfold tLc
        walk_at "rd"
        have hmm' := s1 _ _ hmm
        refine ⟨⟨_, .inl (.inl hmm')⟩, fun D nD => ?_⟩
        refine lcT (g := gg) (tt := tt) (te := te) (vs := [7]) (σ := [some (.ref p), some (.int (n : Nat)), some (.int (1 + (i : Nat))), some (.int m), some (.ref mm), v5, none, none]) (fun k => if isI 0 31 (ds.getD k .none) = true then [] else [xs.getD k .non]) nD (fun H2 s2 => .inl (.inl (s2 _ _ hmm'))) ?_ ?_
        · intro k x H2 hx h2
          obtain ⟨d, hd, dv⟩ := hds.get hx
          have xl := (List.getElem?_eq_some_iff.mp hx).1
          have l40 := ((R.sm _ (List.getElem_mem hj)).1.2 ds e2).1
          have ll := hds.len
          have e1' : ds.getD k .none = d := by rw [List.getD_eq_getElem?_getD, hd]; rfl
          have e2' : xs.getD k .non = x := by rw [List.getD_eq_getElem?_getD, hx]; rfl
          have dv2 := (dv.same s1).same h2.1
          have len1 : ∀ k, (if isI 0 31 (ds.getD k .none) = true then [] else [xs.getD k .non]).length ≤ 1 := fun k => by split <;> simp
          rw [← htt, ← hte, ← hgg]
          refine ⟨rfl, ?_⟩
          walk_at "rd"
          have skp : isI 0 31 d = true → LcP H' D (fun k => if isI 0 31 (ds.getD k .none) = true then [] else [xs.getD k .non]) (k + 1) H2 := fun e => h2.skip (Same.refl _) (by rw [e1', if_pos e])
          have put : isI 0 31 d = false → ∃ acc, H2 D = some (.lst acc) ∧ acc.length < sizeLine ∧ LcP H' D (fun k => if isI 0 31 (ds.getD k .none) = true then [] else [xs.getD k .non]) (k + 1) (upd H2 D (.lst (acc ++ [x]))) := fun e => h2.put nD len1 (by omega) (Same.refl _) (by rw [e1', if_neg (by rw [e]; decide), e2'])
          refine ⟨x, d, rfl, dv2, _, rfl, ?_⟩
          cases hi2 : isIn d with
          | false =>
            rw [if_pos (by decide)]
            exact put (isIn_isI hi2 _ _)
          | true =>
            rw [if_neg (by decide)]
            obtain ⟨z, rfl, rfl⟩ : ∃ z, d = .int z ∧ x = .int z := by
              cases d with
              | int z =>
                cases dv2
                exact ⟨z, rfl, rfl⟩
              | _ => cases hi2
            exact ⟨z, rfl, ite_i (fun g => put (decide_eq_false (by omega))) fun g => ⟨z, rfl, ite_i (fun g2 => put (decide_eq_false (by omega))) fun g2 => skp (decide_eq_true (by omega))⟩⟩
        intro H2 s2 hD2
        refine ⟨Nat.zero_le _, fun e0 ne0 => ?_⟩
        have s3 := same_new (o := .lst []) ne0
        have dvF := ((flat_dv (fun d => isI 0 31 d) ((hds.same s1).same s2)).same s3)
        have seF : ∀ d ∈ ds.filter (fun d => !isI 0 31 d), Se d := fun d hd => ((R.sm _ (List.getElem_mem hj)).1.2 ds e2).2 d (List.mem_filter.mp hd).1
        refine ⟨.list (ds.filter fun d => !isI 0 31 d), .list [], .lst (.inl (.inl (s3 _ _ hD2))) (DvAll.dp _ _ dvF), .lst (.inl (.inl upd_same)) .nil, shp_se seF, rfl, _, rfl, ?_⟩
        rw [eqv_nil]
        have s03 := (s1.trans s2).trans s3
        cases hE : (ds.filter fun d => !isI 0 31 d).isEmpty with
        | false =>
          rw [if_pos (by decide)]
          refine ka _ ?_
          clear ka kb hte hgg htt
          walk_at "rd"
          rw [ei2]
          refine bad (fun z => ?_) _ s03
          have z := z.2
          rw [e2] at z
          rw [List.filter_eq_nil_iff.mpr fun d hd => by rw [z d hd]; decide] at hE
          cases hE
        | true =>
          rw [if_neg (by decide)]
          refine kb _ ?_
          clear ka kb hte hgg htt
          walk_at "rd"
          have hE := List.filter_eq_nil_iff.mp (List.isEmpty_iff.mp hE)
          refine ⟨s03, fun k r hk hr => ?_⟩
          by_cases e : k = i
          · subst e
            rw [e1] at hr
            cases hr
            refine ⟨by rw [d1]; exact decide_eq_true (by omega), ?_⟩
            rw [e2]
            intro d hd
            have := hE d hd
            cases q : isI 0 31 d with
            | true => rfl
            | false => rw [q] at this; exact absurd rfl this
          · exact pre k r (by omega) hr
    rintro σ H1 ⟨v2, v3, v4, v5, rfl, s1, pre⟩
    refine k0 _ _ ?_
    clear k0
    have all : ∀ r ∈ rs, PairG rs.length r := fun r hr => by
      obtain ⟨j, hj⟩ := List.getElem?_of_mem hr
      exact pre j r (by rw [en]; exact (List.getElem?_eq_some_iff.mp hj).1) hj
    obtain ⟨x0, hx0⟩ : ∃ x0, x0 = holP rs := ⟨_, rfl⟩
    have vh := holP_le all
    have h00 : (holP rs).getD 0 0 = 0 := rfl
    refine seqI fun K0 k0 => ?_
    refine forI fun R0 hR => ?_
    walk_at "rd"
    refine ⟨by decide, by decide, by omega, by omega, hR _ _ ?_⟩
    clear hR
    rw [show ((n : Int) + 1 - 1).toNat = n by omega]
    refine for_range (lo := 1) (n := n) (fun i σ H' => ∃ v2 v3 v4 v5 v6 : Option V, σ = [some (.ref p), some (.int (n : Nat)), v2, v3, v4, v5, v6, none] ∧ Same H H' ∧ ∀ j < i, ¬ Cyc (holP rs) (j + 1)) ⟨_, _, _, _, _, rfl, s1, fun j h => by omega⟩ ?_ ?_
    · clear s1
      rintro i σ H' hi ⟨v2, v3, v4, v5, v6, rfl, s1, pre2⟩
      have ei2 : (1 : Int) + (i : Nat) = ((i + 1 : Nat) : Int) := by omega
      have R1 := R.same s1
      obtain ⟨a1, u1, at1, g1, _⟩ := R1.get all (z := i + 1) (by omega) (by omega)
      have x0le := getD_le (i := i + 1) vh
      refine seqI fun K1 k1 => ?_
      walk_at "rd"
      rw [ei2]
      refine ⟨_, R1.h, _, at1, _, rfl, _, g1, _, rfl, k1 _ _ ?_⟩
      clear k1
      refine seqI fun K1 k1 => ?_
      refine forI fun R0 hR => ?_
      walk_at "rd"
      refine ⟨by omega, by omega, hR _ _ ?_⟩
      clear hR
      rw [Int.toNat_natCast]
      refine for_range (lo := 0) (n := n) (fun k σ H2 => ∃ (v6 : Option V) (g : Nat), σ = [some (.ref p), some (.int (n : Nat)), some (.int ((i + 1 : Nat) : Int)), v3, v4, some (.int (g : Nat)), v6, none] ∧ H2 = H' ∧ g ≤ n ∧ ((g = itH (holP rs) k ((holP rs).getD (i + 1) 0) ∧ ∀ m < k, itH (holP rs) m ((holP rs).getD (i + 1) 0) ≠ 0 ∧ itH (holP rs) m ((holP rs).getD (i + 1) 0) ≠ i + 1) ∨ (g = 0 ∧ ¬ Cyc (holP rs) (i + 1)) ∨ (g = i + 1 ∧ Cyc (holP rs) (i + 1)))) ⟨_, _, rfl, rfl, by omega, .inl ⟨rfl, fun m h => by omega⟩⟩ ?_ ?_
      · rintro k σ H2 hk ⟨v6, g, rfl, rfl, gn, inv⟩
        refine ifI fun A2 B2 ka kb => ?_
        walk_at "rd"
        have stay : (g = 0 ∨ g = i + 1) → B2 H2 := fun h => kb _ (by
          walk_at "rd"
          refine ⟨_, g, rfl, rfl, gn, ?_⟩
          rcases inv with ⟨e, pre3⟩ | h2
          · rcases h with z | z
            · exact .inr (.inl ⟨z, cyc_zero h00 (by omega) (fun m hm => (pre3 m hm).2) (by rw [← e]; exact z)⟩)
            · exact .inr (.inr ⟨z, k, by show itH (holP rs) k _ = _; rw [← e]; exact z⟩)
          · exact .inr h2)
        by_cases z : g = 0
        · rw [if_pos (by omega)]
          exact stay (.inl z)
        rw [if_neg (by omega)]
        by_cases z2 : g = i + 1
        · rw [if_pos (by omega)]
          exact stay (.inr z2)
        rw [if_neg (by omega)]
        refine ka _ ?_
        clear ka kb stay
        walk_at "rd"
        rcases inv with ⟨e, pre3⟩ | ⟨e, _⟩ | ⟨e, _⟩
        · obtain ⟨a2, u2, at2, g2, _⟩ := R1.get all (z := g) (by omega) (by omega)
          refine ⟨_, R1.h, _, at2, _, rfl, _, g2, _, rfl, _, _, rfl, rfl, ?_, .inl ⟨?_, fun m hm => ?_⟩⟩
          · have := getD_le (i := g) vh
            omega
          · rw [e, itH_add k 1]
            rfl
          · by_cases em : m = k
            · rw [em, ← e]
              exact ⟨z, z2⟩
            · exact pre3 m (by omega)
        · exact absurd e z
        · exact absurd e z2
      rintro σ H2 ⟨v6, g, rfl, rfl, gn, inv⟩
      refine k1 _ _ ?_
      clear k1
      have key : g = i + 1 ↔ Cyc (holP rs) (i + 1) := by
        rcases inv with ⟨e, pre3⟩ | ⟨e, c⟩ | ⟨e, c⟩
        · by_cases z : g = 0
          · exact ⟨fun h => by omega, fun h => absurd h (cyc_zero h00 (by omega) (fun m hm => (pre3 m hm).2) (by rw [← e]; exact z))⟩
          by_cases z2 : g = i + 1
          · exact ⟨fun _ => ⟨n, by show itH (holP rs) n _ = _; rw [← e]; exact z2⟩, fun _ => z2⟩
          · refine ⟨fun h => absurd h z2, fun ⟨m, hm⟩ => ?_⟩
            exact absurd hm (orbit_never (n := rs.length) x0le vh (fun m hm => by
              by_cases lt : m < n
              · exact pre3 m lt
              · rw [show m = n by omega, ← e]
                exact ⟨z, z2⟩) m)
        · exact ⟨fun h => by omega, fun h => absurd h c⟩
        · exact ⟨fun _ => c, fun _ => e⟩
      refine ifI fun A2 B2 ka kb => ?_
      walk_at "rd"
      by_cases z : g = i + 1
      · rw [if_pos (by omega)]
        refine ka _ ?_
        walk_at "rd"
        exact q (i + 1) H2 (.inl ⟨all, .inr ⟨i, by omega, rfl, key.mp z, pre2⟩⟩) s1
      · rw [if_neg (by omega)]
        refine kb _ ?_
        walk_at "rd"
        refine ⟨s1, fun j hj => ?_⟩
        by_cases ej : j = i
        · rw [ej]
          exact fun c => z (key.mpr c)
        · exact pre2 j (by omega)
    rintro σ H2 ⟨v2, v3, v4, v5, v6, rfl, s2, pre2⟩
    refine k0 _ _ ?_
    walk_at "rd"
    exact q 0 H2 (.inl ⟨all, .inl ⟨rfl, fun j hj => pre2 j (by omega)⟩⟩) s2
end
section
variable {P : Program} {w : World} {K : PySem.W.Frag} {mg : Str → Option Value} {base : Heap}
theorem ok__law_pairs_judged (S : Src K mg "_law_pairs_judged" s__law_pairs_judged) (T : Tx P K mg) (C_Tree_MU_initU : CalI P w K mg base (L2.CX P w) 3 (He.ga K "Tree") ["self", "rows"] (spTreeG K)) (C_Tree_M_told : CalM P w K mg base CX0 1 (He.ga K "Tree") "told" ["self"] (spTold K)) (C_Tree_MU_lenU : CalM P w K mg base CX0 1 (He.ga K "Tree") "__len__" ["self"] (spLen K))  : CalG P w K mg base CX0 5 "_law_pairs_judged" ["_law_pairs"] spLPJudged := by
  refine S.calG sc__law_pairs_judged bn__law_pairs_judged (fun vs H Q E h => ?_) (fun f cdv A outer s H vs Q E hG hr h => ?_)
  · first | (obtain ⟨rfl, _⟩ := h; rfl) | (obtain ⟨_, rfl, _⟩ := h; rfl) | (obtain ⟨_, _, rfl, _⟩ := h; rfl) | (obtain ⟨_, _, _, rfl, _⟩ := h; rfl) | (obtain ⟨_, _, _, _, rfl, _⟩ := h; rfl) | (obtain ⟨_, _, _, _, _, rfl, _⟩ := h; rfl) | (obtain ⟨_, _, _, _, _, _, rfl, _⟩ := h; rfl) | (obtain ⟨_, _, _, _, _, _, _, rfl, _⟩ := h; rfl) | (obtain ⟨_, _, _, _, _, _, _, _, rfl, _⟩ := h; rfl) | (obtain ⟨_, _, _, _, _, _, _, _, _, rfl, _⟩ := h; rfl) | (obtain ⟨_, _, _, _, _, _, _, _, _, _, rfl, _⟩ := h; rfl) | (obtain ⟨_, _, _, _, _, _, _, _, _, _, _, rfl, _⟩ := h; rfl) | (obtain ⟨_, _, _, _, _, _, _, _, _, _, _, _, rfl, _⟩ := h; rfl)
  · skip
    obtain ⟨f_Tree_M_told, fd_Tree_M_told, m_Tree_M_told, b_Tree_M_told, G_Tree_M_told⟩ := C_Tree_M_told.ex
    obtain ⟨f_Tree_MU_lenU, fd_Tree_MU_lenU, m_Tree_MU_lenU, b_Tree_MU_lenU, G_Tree_MU_lenU⟩ := C_Tree_MU_lenU.ex
    refine ⟨_, (pss_cons (ps_try_as (i := 2) rfl rfl sc__law_pairs_judged.nd rfl rfl ⟨rfl, by decide, Or.inl T.g_BadTree⟩ takes0 (fun W pn xe tk _ => (pss_one (ps_set (i := 1) sc__law_pairs_judged.nd rfl (Or.inl rfl) (Fx.pe_mkT C_Tree_MU_initU (hr.mono (by decide)) T.g_Tree tk (Fx.pa_c (pv 0) pa_nil))))) (fun a oe cls d pn hz hf => (pss_one (ps_ret (pe_lst (Fx.pa_c pe_str (Fx.pa_c (Fx.pe_cB (Fx.call_reprK (K := K) rfl hG hr.units) T.b_repr (by decide +kernel) (Fx.pa_c (pe_xf (XC.xfc T.x_BadTree) T.x_BadTree.noF hz hf (pv 2)) pa_nil)) (Fx.pa_c (pe_and (Fx.pe_cB (call_isY hz hf) T.b_isinstance (by decide +kernel) (Fx.pa_c (pv 2) (Fx.pa_c (pe_glob (v := .ref (He.ga K "FableError")) rfl T.g_FableError rfl) pa_nil))) (pe_one (pe_not (Fx.pe_cB (call_isY hz hf) T.b_isinstance (by decide +kernel) (Fx.pa_c (pv 2) (Fx.pa_c (pe_glob (v := .ref (He.ga K "NoThing")) rfl T.g_NoThing rfl) pa_nil)))))) pa_nil))))))))
        (pss_one (ps_ret (pe_lst (Fx.pa_c pe_str (Fx.pa_c (Fx.pe_cB (Fx.call_reprK (K := K) rfl hG hr.units) T.b_repr (by decide +kernel) (Fx.pa_c (pe_meth0 (pv 1) T.cl_Tree m_Tree_M_told G_Tree_M_told (hr.mono (by decide)) b_Tree_M_told .nil pass0) pa_nil)) (Fx.pa_c (pe_cmpR op_eq (Fx.pe_cB (Fx.len_O C_Tree_MU_lenU (hr.mono (by decide)) pass0) T.b_len (by decide +kernel) (Fx.pa_c (pv 1) pa_nil)) (Fx.pe_cB Fx.len_Q T.b_len (by decide +kernel) (Fx.pa_c (pv 0) pa_nil)) (nomark _)) pa_nil))))))), ?_⟩
    obtain ⟨p, as, rs, L, rfl, R, sm, L40, n1, n60, q⟩ := h
    refine seqI fun K1 k1 => ?_
    walk_at "rd"
    intro x dx nx ndx ne
    have s3 := same_new (o := .own x) ndx
    have nx3 : (upd H dx (.own x)) x = none := by rw [upd_ne (Ne.symm ne)]; exact nx
    have s4 := s3.trans (same_new (o := .ins (He.ga K "Tree") dx []) nx3)
    have hx4 : (upd (upd H dx (.own x)) x (.ins (He.ga K "Tree") dx [])) x = some (.ins (He.ga K "Tree") dx []) := upd_same
    have f4 : ∀ a, (upd (upd H dx (.own x)) x (.ins (He.ga K "Tree") dx [])) a = none → H a = none := fun a h => s4.free h
    show spTreeG K [.ref x, .ref p] (upd (upd H dx (.own x)) x (.ins (He.ga K "Tree") dx [])) _ _
    generalize upd (upd H dx (.own x)) x (.ins (He.ga K "Tree") dx []) = H4 at s4 hx4 f4
    have back : ∀ {H5 : Hp}, Kx x H4 H5 → Same H H5 := fun kx a o h => kx a o (fun e => by rw [e, nx] at h; cases h) (s4 _ _ h)
    refine ⟨x, p, dx, as, rs, rfl, hx4, R.same s4, n1, n60, fun r hr => ?_, fun k d H' k0 fb kx nd hd => ?_, fun fb A T' H' kx fr T0 ok eh em F => ⟨rfl, k1 _ _ ?_⟩⟩
    · have o := (sm r hr).2
      cases e : r.2 with
      | tuple ds =>
        have := (o ds e).1
        show (ds.map natD).length ≤ 40
        rw [List.length_map]
        omega
      | _ => exact Nat.zero_le _
    · clear k1
      have s := back kx
      refine ⟨true, T.m_TT, fun _ a0 na => ?_, fun z => Bool.noConfusion z⟩
      have efs : ∃ fs, H' d = some (.xd fs) := ⟨_, hd⟩
      walk_at "rd"
      simp only [rIsY, tXf, rRepr]
      walk_at "rd"
      simp only [Value.ref.injEq, exists_eq_left', clsVal, Option.some.injEq, T.e_BadTree, T.k_TF, T.k_TN, true_and, Bool.not_true, Bool.not_false, Bool.false_eq_true, if_false, hd, HO.xd.injEq, exists_eq_left, exists_eq', List.lookup, beq_self_eq_true]
      have S1 := shw_int (K := K) (H := H') (i := (k : Nat)) (by omega) (by have := fbp_le fb; omega)
      refine ⟨_, S1.dp, S1.sh, S1.nd, S1.dep, S1.len, ?_⟩
      rw [if_pos trivial]
      refine ⟨by decide, fun q0 n0 => q k q0 _ fb (s.trans (same_new n0)) (s.free n0) ?_⟩
      rw [ansW, ansZ, if_neg k0, if_neg k0]
      exact upd_same
    · clear k1
      have s := back kx
      have all : ∀ r ∈ rs, PairG rs.length r := by
        rcases fb with ⟨all, _⟩ | ⟨j, _, _, e, _⟩
        · exact all
        · omega
      have rw1 := rowsP_eq all eh em ok F
      obtain ⟨dx', hx⟩ := T0.ins
      walk_at "rd"
      refine ⟨_, _, hx, rfl, x, A, T', rfl, T0, ok, fun p1 H1 s1 np1 td => ?_⟩
      have dp1 := td.dp (K := K)
      have S1 := (okD_told ok).sho dp1 (by decide) (by decide)
      rw [rw1] at dp1 S1
      have hx1 := s1 _ _ hx
      refine ⟨_, S1.dp, S1.sh, S1.nd, S1.dep, S1.len, _, _, hx1, x, A, T', rfl, T0.same s1, ok, fun H2 s2 => ⟨_, rfl, by omega, by have := ok.n60; omega, as.map V.ref, ?_⟩⟩
      have s02 := (s.trans s1).trans s2
      refine ⟨sq_same R.h s02, by decide, fun q0 n0 => q 0 q0 _ fb (s02.trans (same_new n0)) (s02.free n0) ?_⟩
      have en : T'.n = rs.length := by
        show T'.hol.length - 1 = _
        rw [eh, show (holP rs).length = rs.length + 1 from congrArg (· + 1) (List.length_map ..)]
        rfl
      rw [upd_same, en, List.length_map, R.la, decide_eq_true rfl]
      rfl
end
section
variable {P : Program} {w : World} {K : PySem.W.Frag} {mg : Str → Option Value} {base : Heap}
theorem ok__law_pairs_due (S : Src K mg "_law_pairs_due" s__law_pairs_due) (T : Tx P K mg) (C__law_first_bad_pair : Cal P w K mg base CX0 2 "_law_first_bad_pair" ["_law_pairs"] spLFirstP)  : CalG P w K mg base CX0 3 "_law_pairs_due" ["_law_pairs"] spLPDue := by
  refine S.calG sc__law_pairs_due bn__law_pairs_due (fun vs H Q E h => ?_) (fun f cdv A outer s H vs Q E hG hr h => ?_)
  · first | (obtain ⟨rfl, _⟩ := h; rfl) | (obtain ⟨_, rfl, _⟩ := h; rfl) | (obtain ⟨_, _, rfl, _⟩ := h; rfl) | (obtain ⟨_, _, _, rfl, _⟩ := h; rfl) | (obtain ⟨_, _, _, _, rfl, _⟩ := h; rfl) | (obtain ⟨_, _, _, _, _, rfl, _⟩ := h; rfl) | (obtain ⟨_, _, _, _, _, _, rfl, _⟩ := h; rfl) | (obtain ⟨_, _, _, _, _, _, _, rfl, _⟩ := h; rfl) | (obtain ⟨_, _, _, _, _, _, _, _, rfl, _⟩ := h; rfl) | (obtain ⟨_, _, _, _, _, _, _, _, _, rfl, _⟩ := h; rfl) | (obtain ⟨_, _, _, _, _, _, _, _, _, _, rfl, _⟩ := h; rfl) | (obtain ⟨_, _, _, _, _, _, _, _, _, _, _, rfl, _⟩ := h; rfl) | (obtain ⟨_, _, _, _, _, _, _, _, _, _, _, _, rfl, _⟩ := h; rfl)
  · skip
    refine ⟨_, (pss_cons (ps_set (i := 1) sc__law_pairs_due.nd rfl (Or.inl rfl) (Fx.pe_cal C__law_first_bad_pair (hr.mono (by decide)) pass0 (Fx.pa_c (pv 0) pa_nil)))
        (pss_cons (ps_if (pt_cmpR op_gt (pv 1) pe_int (nomark _)) (pss_one (ps_ret (pe_lst (Fx.pa_c pe_str (Fx.pa_c (Fx.pe_cB (Fx.call_reprK (K := K) rfl hG hr.units) T.b_repr (by decide +kernel) (Fx.pa_c (pv 1) pa_nil)) (Fx.pa_c pe_bl pa_nil)))))) pss_nil)
        (pss_cons (ps_set (i := 2) sc__law_pairs_due.nd rfl (Or.inl rfl) (Fx.pe_cB Fx.len_L T.b_len (by decide +kernel) (Fx.pa_c (pv 0) pa_nil)))
        (pss_cons (ps_set (i := 3) sc__law_pairs_due.nd rfl (Or.inl rfl) (pe_lst pa_nil))
        (pss_cons (ps_for PassesOwn.never rfl (pi_range2 rfl T.b_range (Fx.pa_c pe_int (Fx.pa_c (pe_op op_add (pv 2) pe_int) pa_nil))) (pg_name (i := 4) sc__law_pairs_due.nd rfl (Or.inr rfl)) (pss_cons (ps_asg (pe_ix Fx.ix_L (pv 0) (pe_op op_sub (pv 4) pe_int) (fun _ _ => rfl)) (pg_tup rfl (pgs_cons (pg_name (i := 5) sc__law_pairs_due.nd rfl (Or.inr rfl)) (pgs_cons (pg_name (i := 6) sc__law_pairs_due.nd rfl (Or.inr rfl)) pgs_nil))))
        (pss_cons (ps_set (i := 7) sc__law_pairs_due.nd rfl (Or.inl rfl) (pe_op op_cat (pe_lc (own := [("_law_one", 9)]) rfl sc__law_pairs_due.nd (pi_range2 rfl T.b_range (Fx.pa_c pe_int (Fx.pa_c (pe_op op_add (pv 2) pe_int) pa_nil))) (blkOk_by (N := N__law_pairs_due) (sc := defScope s__law_pairs_due) (by decide +kernel)) (fun _ _ _ _ _ => (pg_name (i := 9) sc__law_pairs_due.nd rfl (Or.inl rfl))) (fun _ _ _ _ _ => (pts_one (pt_cmpR op_eq (pe_ix Fx.ix_T (pe_ix Fx.ix_L (pv 0) (pe_op op_sub (pv 9) pe_int) (fun _ _ => rfl)) pe_int (fun _ _ => rfl)) (pv 4) (nomark _)))) (fun _ _ _ _ _ => (pv 9))) (pe_lst (Fx.pa_c pe_int pa_nil))))
        (pss_cons (ps_set (i := 8) sc__law_pairs_due.nd rfl (Or.inl rfl) pe_int)
        (pss_cons (ps_if (pt_cmpR op_ne (pv 5) pe_int (nomark _)) (pss_one (ps_set (i := 8) sc__law_pairs_due.nd rfl (Or.inl rfl) (pe_ix Fx.ix_L (pe_op op_cat (pe_lc (own := [("_law_one", 9)]) rfl sc__law_pairs_due.nd (pi_range2 rfl T.b_range (Fx.pa_c (pe_op op_add (pv 4) pe_int) (Fx.pa_c (pe_op op_add (pv 2) pe_int) pa_nil))) (blkOk_by (N := N__law_pairs_due) (sc := defScope s__law_pairs_due) (by decide +kernel)) (fun _ _ _ _ _ => (pg_name (i := 9) sc__law_pairs_due.nd rfl (Or.inl rfl))) (fun _ _ _ _ _ => (pts_one (pt_cmpR op_eq (pe_ix Fx.ix_T (pe_ix Fx.ix_L (pv 0) (pe_op op_sub (pv 9) pe_int) (fun _ _ => rfl)) pe_int (fun _ _ => rfl)) (pv 5) (nomark _)))) (fun _ _ _ _ _ => (pv 9))) (pe_lst (Fx.pa_c pe_int pa_nil))) pe_int (fun _ _ => rfl)))) pss_nil)
        (pss_one (ps_expr (pe_bm PySem.F.plainAttrs_list PySem.F.slot_list_append PySem.F.type_list_append mt_append (pv 3) (Fx.pa_c (pe_tup (Fx.pa_c (Fx.pe_cTy Fx.tup_L T.b_tuple (by decide +kernel) (Fx.pa_c (pe_lc (own := [("_law_mark", 10)]) rfl sc__law_pairs_due.nd (pi_range1 rfl T.b_range (Fx.pa_c pe_int pa_nil)) (blkOk_by (N := N__law_pairs_due) (sc := defScope s__law_pairs_due) (by decide +kernel)) (fun _ _ _ _ _ => (pg_name (i := 10) sc__law_pairs_due.nd rfl (Or.inl rfl))) (fun _ _ _ _ _ => (pts_one (pt_cmpR (Fx.in_seqK (K := K) rfl) (pv 10) (pv 6) rfl))) (fun _ _ _ _ _ => (pv 10))) pa_nil)) (Fx.pa_c (pv 5) (Fx.pa_c (pv 8) (Fx.pa_c (pe_ix Fx.ix_L (pv 7) pe_int (fun _ _ => rfl)) pa_nil))))) pa_nil)))))))))
        (pss_one (ps_ret (pe_lst (Fx.pa_c pe_str (Fx.pa_c (Fx.pe_cB (Fx.call_reprK (K := K) rfl hG hr.units) T.b_repr (by decide +kernel) (Fx.pa_c (Fx.pe_cTy Fx.tup_L T.b_tuple (by decide +kernel) (Fx.pa_c (pv 3) pa_nil)) pa_nil)) (Fx.pa_c pe_bl pa_nil))))))))))), ?_⟩
    obtain ⟨p, as, rs, L, rfl, R, L40, n1, n60, q⟩ := h
    refine seqI fun K1 k1 => ?_
    walk_at "rd"
    refine ⟨p, as, rs, L, rfl, R, n60, L40, fun k H1 fb s1 => k1 _ _ ?_⟩
    clear k1
    refine seqI fun K1 k1 => ?_
    refine ifI fun A2 B2 ka kb => ?_
    walk_at "rd"
    by_cases k0 : k = 0
    · subst k0
      rw [if_neg (by omega)]
      refine kb _ (k1 _ _ ?_)
      clear ka kb k1
      obtain ⟨all, nc⟩ : (∀ r ∈ rs, PairG rs.length r) ∧ ∀ j < rs.length, ¬ Cyc (holP rs) (j + 1) := by
        rcases fb with ⟨all, ⟨_, am⟩ | ⟨j, _, e, _⟩⟩ | ⟨j, _, _, e, _⟩
        · exact ⟨all, am⟩
        · omega
        · omega
      have R1 := R.same s1
      obtain ⟨n, en⟩ : ∃ n, n = rs.length := ⟨_, rfl⟩
      refine seqI fun K1 k1 => ?_
      walk_at "rd"
      refine ⟨_, R1.h, k1 _ _ ?_⟩
      clear k1
      rw [show (((as.map V.ref).length : Nat) : Int) = (n : Nat) by rw [List.length_map, R.la, en]]
      refine seqI fun K1 k1 => ?_
      walk_at "rd"
      refine ⟨by decide, fun qt nqt => k1 _ _ ?_⟩
      clear k1
      refine seqI fun K0 k0 => ?_
      refine forI fun R0 hR => ?_
      walk_at "rd"
      refine ⟨by decide, by decide, by omega, by omega, hR _ _ ?_⟩
      clear hR
      rw [show ((n : Int) + 1 - 1).toNat = n by omega]
      have sA := same_new (o := .lst []) nqt
      refine for_range (lo := 1) (n := n) (fun i σ H' => ∃ (v4 v5 v6 v7 v8 v9 v10 : Option V) (as' : List Addr), σ = [some (.ref p), some (.int ((0 : Nat) : Int)), some (.int (n : Nat)), some (.ref qt), v4, v5, v6, v7, v8, none, none] ∧ as'.length = i ∧ H' qt = some (.lst (as'.map V.ref)) ∧ (∀ j a, as'[j]? = some a → RowAt H' a (rowP rs (j + 1))) ∧ Same H1 H') ⟨_, _, _, _, _, none, none, [], rfl, rfl, upd_same, fun j a e => (by cases e), sA⟩ ?_ ?_
      · rintro i σ H' hi ⟨v4, v5, v6, v7, v8, v9, v10, as', rfl, la', ht, row, s2⟩
        have e1 : (1 : Int) + (i : Nat) = ((i + 1 : Nat) : Int) := by omega
        have R2 := R1.same s2
        obtain ⟨a, v1, at1, g0, dv⟩ := R2.get all (z := i + 1) (by omega) (by omega)
        rw [Nat.add_sub_cancel] at dv
        have er : rs.getD i (.none, .none) = rs[i] := by rw [List.getD_eq_getElem?_getD, List.getElem?_eq_getElem (by omega)]; rfl
        have pg := all _ (List.getElem_mem (by omega : i < rs.length))
        rw [er] at dv
        obtain ⟨mm, g0, hm⟩ := pair_nat g0 dv pg.2
        refine seqI fun K1 k1 => ?_
        walk_at "rd"
        rw [e1]
        refine ⟨_, R2.h, _, at1, _, rfl, _, .inl (.inl g0), rfl, _, _, rfl, _, _, rfl, rfl, k1 _ _ ?_⟩
        clear k1
        refine seqI fun K1 k1 => ?_
        generalize hte : tVar 9 = te
        generalize hgg : gName 9 = gg
        generalize htt : tTest (tOp rEq (tOp rIxTt (tOp rIxLt (tVar 0) (tOp (rI0 fun i j => V.int (i - j)) te (tC (V.int 1)))) (tC (V.int 0))) (tVar 4)) = tt
        unfold tLc
        walk_at "rd"
        refine ⟨by decide, by decide, by omega, by omega, fun D nD => ?_⟩
        rw [show ((n : Int) + 1 - 1).toNat = n by omega]
        refine lc_range (lo := 1) (n := n) (g := gg) (tt := tt) (te := te) (vs := [9]) (σ := [some (.ref p), some (.int ((0 : Nat) : Int)), some (.int (n : Nat)), some (.ref qt), some (.int ((i + 1 : Nat) : Int)), some (.int ((holP rs).getD (i + 1) 0 : Nat)), some (.ref mm), v7, v8, none, none]) (fun k H2 => H2 D = some (.lst (ni ((List.range' 1 k).filter fun z => decide ((holP rs).getD z 0 = i + 1)))) ∧ Same H' H2) ⟨upd_same, same_new nD⟩ ?_ ?_
        · rintro k H4 hk ⟨hD, s4⟩
          have ei : (1 : Int) + (k : Nat) = ((1 + k : Nat) : Int) := by omega
          obtain ⟨a2, u2, at2, g2, _⟩ := (R2.same s4).get all (z := 1 + k) (by omega) (by omega)
          obtain ⟨f1, f2⟩ := filS hD (by omega) nD s4
          rw [ei, ← htt, ← hte, ← hgg]
          refine ⟨rfl, ?_⟩
          walk_at "rd"
          refine ⟨_, (R2.same s4).h, _, at2, _, rfl, _, g2, _, rfl, rfl, ?_⟩
          by_cases g3 : (holP rs).getD (1 + k) 0 = i + 1
          · rw [if_pos (by rw [g3])]
            exact f1 (decide_eq_true g3)
          · rw [if_neg (fun z => g3 (by have := V.int.inj z; omega))]
            exact f2 (decide_eq_false g3)
        rintro H2 ⟨hD, s3⟩
        clear hte hgg htt
        have lfl : ∀ lo k (pr : Nat → Bool), k ≤ 60 → ((List.range' lo k).filter pr).length ≤ 60 := fun lo k pr hk => by
          have := List.length_filter_le pr (List.range' lo k)
          rw [List.length_range'] at this
          omega
        have sb : ∀ m : Nat, m ≤ 60 → m + 1 ≤ sizeLine := fun m hm => Nat.le_trans (by omega : _ ≤ 100) (by decide)
        refine ⟨by decide, fun l0 nl0 => ⟨_, same_new nl0 _ _ hD, by rw [ni_len]; exact sb _ (lfl _ _ _ (by omega)), fun qp nqp => k1 _ _ ?_⟩⟩
        clear k1
        rw [ni0, ← ni_app]
        have sB := (same_new (o := .lst (ni [0])) nl0).trans (same_new (o := .lst (ni (((List.range' 1 n).filter fun z => decide ((holP rs).getD z 0 = i + 1)) ++ [0]))) nqp)
        have hqp : (upd (upd H2 l0 (.lst (ni [0]))) qp (.lst (ni (((List.range' 1 n).filter fun z => decide ((holP rs).getD z 0 = i + 1)) ++ [0])))) qp = some (.lst (ni (((List.range' 1 n).filter fun z => decide ((holP rs).getD z 0 = i + 1)) ++ [0]))) := upd_same
        generalize upd (upd H2 l0 (.lst (ni [0]))) qp (.lst (ni (((List.range' 1 n).filter fun z => decide ((holP rs).getD z 0 = i + 1)) ++ [0]))) = H5 at sB hqp
        have s5 := s3.trans sB
        clear sB hD s3 nl0 nqp
        refine seqI fun K1 k1 => ?_
        walk_at "rd"
        refine k1 _ _ ?_
        clear k1
        refine seqI fun K1 k1 => ?_
        have fin : ∀ (bs : Nat) H6, Same H5 H6 → bs = (if (holP rs).getD (i + 1) 0 = 0 then 0 else (((List.range' (i + 1 + 1) (rs.length - (i + 1))).filter fun u => decide ((holP rs).getD u 0 = (holP rs).getD (i + 1) 0)) ++ [0]).getD 0 0) → K1 [some (.ref p), some (.int ((0 : Nat) : Int)), some (.int (n : Nat)), some (.ref qt), some (.int ((i + 1 : Nat) : Int)), some (.int ((holP rs).getD (i + 1) 0 : Nat)), some (.ref mm), some (.ref qp), some (.int (bs : Nat)), none, none] H6 := by
          intro bs H6 s6 eb
          refine k1 _ _ ?_
          clear k1
          have s56 := s5.trans s6
          walk_at "rd"
          have ht6 := s56 _ _ ht
          refine ⟨tyL ht6, ?_⟩
          generalize hte : tVar 10 = te
          generalize hgg : gName 10 = gg
          generalize htt : tTest (tOp (rIn K false) te (tVar 6)) = tt
          unfold tLc
          walk_at "rd"
          refine ⟨by decide, by decide, fun D nD => ?_⟩
          have hm6 := s56 _ _ hm
          refine lc_range (lo := 0) (n := 32) (g := gg) (tt := tt) (te := te) (vs := [10]) (σ := [some (.ref p), some (.int ((0 : Nat) : Int)), some (.int (n : Nat)), some (.ref qt), some (.int ((i + 1 : Nat) : Int)), some (.int ((holP rs).getD (i + 1) 0 : Nat)), some (.ref mm), some (.ref qp), some (.int (bs : Nat)), none, none]) (fun k H2 => H2 D = some (.lst (ni ((List.range' 0 k).filter fun z => decide (z ∈ mkL rs[i].2)))) ∧ Same H6 H2) ⟨upd_same, same_new nD⟩ ?_ ?_
          · rintro k H4 hk ⟨hD, s4⟩
            have ei : (0 : Int) + (k : Nat) = ((0 + k : Nat) : Int) := by omega
            obtain ⟨f1, f2⟩ := filS hD (by omega) nD s4
            rw [ei, ← htt, ← hte, ← hgg]
            refine ⟨rfl, ?_⟩
            walk_at "rd"
            refine ⟨mm, _, rfl, .inr (.inl (.inl (s4 _ _ hm6))), rfl, flat_ni _, _, rfl, ?_⟩
            rw [show (if false = true then !inV (V.int ((0 + k : Nat) : Int)) (ni (mkL rs[i].2)) else inV (V.int ((0 + k : Nat) : Int)) (ni (mkL rs[i].2))) = decide (0 + k ∈ mkL rs[i].2) from inV_ni _]
            by_cases g3 : 0 + k ∈ mkL rs[i].2
            · rw [if_pos (decide_eq_true g3)]
              exact f1 (decide_eq_true g3)
            · rw [if_neg (by rw [decide_eq_false g3]; decide)]
              exact f2 (decide_eq_false g3)
          rintro H4 ⟨hD, s4⟩
          clear hte hgg htt
          rw [← List.range_eq_range'] at hD
          obtain ⟨M, hM⟩ : ∃ M, M = (List.range 32).filter fun z => decide (z ∈ mkL rs[i].2) := ⟨_, rfl⟩
          obtain ⟨fs, hfs⟩ : ∃ fs, fs = (((List.range' 1 n).filter fun z => decide ((holP rs).getD z 0 = i + 1)) ++ [0]).getD 0 0 := ⟨_, rfl⟩
          rw [← hM] at hD
          refine ⟨_, hD, fun tm ntm => ⟨_, same_new ntm _ _ (s4 _ _ (s6 _ _ hqp)), .int (fs : Nat), by rw [hfs]; exact ni_at (i := 0) (by simp), by decide, fun tr ntr => ?_⟩⟩
          have c1 := same_new (o := .tup (ni M)) ntm
          have c2 := same_new (o := .tup [.ref tm, .int ((holP rs).getD (i + 1) 0 : Nat), .int (bs : Nat), .int (fs : Nat)]) ntr
          have h1 := c2 _ _ (upd_same (H := H4) (a := tm) (o := .tup (ni M)))
          have h2 : (upd (upd H4 tm (.tup (ni M))) tr (.tup [.ref tm, .int ((holP rs).getD (i + 1) 0 : Nat), .int (bs : Nat), .int (fs : Nat)])) tr = some (.tup [.ref tm, .int ((holP rs).getD (i + 1) 0 : Nat), .int (bs : Nat), .int (fs : Nat)]) := upd_same
          have c3 := (s4.trans c1).trans c2
          generalize upd (upd H4 tm (.tup (ni M))) tr (.tup [.ref tm, .int ((holP rs).getD (i + 1) 0 : Nat), .int (bs : Nat), .int (fs : Nat)]) = H7 at c3 h1 h2
          have ht7 := c3 _ _ ht6
          refine ⟨_, ht7, by rw [List.length_map, la']; exact Nat.lt_of_lt_of_le (by omega : _ < 100) (by decide), none, none, as' ++ [tr], by rw [List.length_append, la']; rfl, by rw [List.map_append]; rfl, fun j a e => ?_, Same.put ((s2.trans s56).trans c3) nqt⟩
          by_cases hj : j < as'.length
          · rw [List.getElem?_append_left hj] at e
            exact (((row j a e).same (s56.trans c3))).put ht7
          · have hj2 := (List.getElem?_eq_some_iff.mp e).1
            rw [List.length_append, List.length_singleton] at hj2
            have ej : j = as'.length := by omega
            rw [ej, List.getElem?_append_right (Nat.le_refl _), Nat.sub_self] at e
            cases e
            rw [ej, la']
            have rr : RowAt H7 tr (rowP rs (i + 1)) := by
              refine ⟨tm, ?_, ?_⟩
              · rw [h2, eb, hfs, en]
                rfl
              · rw [h1, hM, rowP, Nat.add_sub_cancel, er]
            exact rr.put ht7
        refine ifI fun A2 B2 ka kb => ?_
        walk_at "rd"
        by_cases z : (holP rs).getD (i + 1) 0 = 0
        · rw [if_pos (by omega)]
          refine kb _ ?_
          walk_at "rd"
          exact fin 0 H5 (Same.refl _) (by rw [if_pos z])
        rw [if_neg (by omega)]
        refine ka _ ?_
        clear ka kb
        generalize hte : tVar 9 = te
        generalize hgg : gName 9 = gg
        generalize htt : tTest (tOp rEq (tOp rIxTt (tOp rIxLt (tVar 0) (tOp (rI0 fun i j => V.int (i - j)) te (tC (V.int 1)))) (tC (V.int 0))) (tVar 5)) = tt
        unfold tLc
        walk_at "rd"
        refine ⟨by omega, by omega, by omega, by omega, fun D nD => ?_⟩
        rw [show ((n : Int) + 1 - (((i + 1 : Nat) : Int) + 1)).toNat = rs.length - (i + 1) by omega, show (((i + 1 : Nat) : Int) + 1) = ((i + 1 + 1 : Nat) : Int) by omega]
        refine lc_range (lo := ((i + 1 + 1 : Nat) : Int)) (n := rs.length - (i + 1)) (g := gg) (tt := tt) (te := te) (vs := [9]) (σ := [some (.ref p), some (.int ((0 : Nat) : Int)), some (.int (n : Nat)), some (.ref qt), some (.int ((i + 1 : Nat) : Int)), some (.int ((holP rs).getD (i + 1) 0 : Nat)), some (.ref mm), some (.ref qp), some (.int 0), none, none]) (fun k H2 => H2 D = some (.lst (ni ((List.range' (i + 1 + 1) k).filter fun z => decide ((holP rs).getD z 0 = (holP rs).getD (i + 1) 0)))) ∧ Same H5 H2) ⟨upd_same, same_new nD⟩ ?_ ?_
        · rintro k H4 hk ⟨hD, s4⟩
          have ei : ((i + 1 + 1 : Nat) : Int) + (k : Nat) = ((i + 1 + 1 + k : Nat) : Int) := by omega
          have R4 := (R2.same s5).same s4
          obtain ⟨a2, u2, at2, g2, _⟩ := R4.get all (z := i + 1 + 1 + k) (by omega) (by omega)
          obtain ⟨f1, f2⟩ := filS hD (by omega) nD s4
          rw [ei, ← htt, ← hte, ← hgg]
          refine ⟨rfl, ?_⟩
          walk_at "rd"
          refine ⟨_, R4.h, _, at2, _, rfl, _, g2, _, rfl, rfl, ?_⟩
          by_cases g3 : (holP rs).getD (i + 1 + 1 + k) 0 = (holP rs).getD (i + 1) 0
          · rw [if_pos (by rw [g3])]
            exact f1 (decide_eq_true g3)
          · rw [if_neg (fun z => g3 (by have := V.int.inj z; omega))]
            exact f2 (decide_eq_false g3)
        rintro H4 ⟨hD, s4⟩
        clear hte hgg htt
        refine ⟨by decide, fun l0 nl0 => ⟨_, same_new nl0 _ _ hD, by rw [ni_len]; exact sb _ (lfl _ _ _ (by omega)), fun q1 nq1 => ?_⟩⟩
        rw [ni0, ← ni_app]
        refine ⟨_, ni_at (i := 0) (by simp), fin _ _ ((s4.trans (same_new nl0)).trans (same_new nq1)) (by rw [if_neg z])⟩
      rintro σ H2 ⟨v4, v5, v6, v7, v8, v9, v10, as', rfl, la', ht, row, s2⟩
      refine k0 _ _ ?_
      walk_at "rd"
      refine ⟨_, ht, fun t nt => ?_⟩
      have s3 := s2.trans (same_new (o := .tup (as'.map V.ref)) nt)
      have td : ToldAt (upd H2 t (.tup (as'.map V.ref))) t (rowsP rs) := ⟨as', upd_same, by rw [la', rowsP, List.length_map, List.length_range', en], fun j a r e1 e2 => by
        rw [rowsP, List.getElem?_map] at e2
        have hj := (List.getElem?_eq_some_iff.mp e1).1
        rw [List.getElem?_range' (by omega)] at e2
        cases e2
        rw [show 1 + 1 * j = j + 1 by omega]
        exact (row j a e1).same (same_new nt)⟩
      have S1 := (sm_rowsP all n60).shw (td.dp (K := K)) (by decide) (by decide)
      exact ⟨_, S1.dp, S1.sh, S1.nd, S1.dep, S1.len, by decide, fun q0 n0 => q 0 q0 _ fb ((s1.trans s3).trans (same_new n0)) ((s1.trans s3).free n0) upd_same⟩
    · rw [if_pos (by omega)]
      refine ka _ ?_
      walk_at "rd"
      have S1 := shw_int (K := K) (H := H1) (i := (k : Nat)) (by omega) (by have := fbp_le fb; omega)
      refine ⟨_, S1.dp, S1.sh, S1.nd, S1.dep, S1.len, by decide, fun q0 n0 => q k q0 _ fb (s1.trans (same_new n0)) (s1.free n0) ?_⟩
      rw [ansW, ansZ, if_neg k0, if_neg k0]
      exact upd_same
end
section
variable {P : Program} {w : World} {K : PySem.W.Frag} {mg : Str → Option Value} {base : Heap}
theorem ok__law_pairs_changed (S : Src K mg "_law_pairs_changed" s__law_pairs_changed) (T : Tx P K mg) (C__law_pick : Cal P w K mg base CX0 1 "_law_pick" ["_law_bag_here", "_law_many"] spPick) (C__law_odd : Cal P w K mg base CX0 3 "_law_odd" ["_law_bag_here", "_law_many"] spLOddG) (C__law_odd_marks : Cal P w K mg base CX0 3 "_law_odd_marks" ["_law_bag_here", "_law_marks"] spLOddM)  : Cal P w K mg base CX0 4 "_law_pairs_changed" ["_law_bag_here", "_law_pairs"] spLPChanged := by
  refine S.cal sc__law_pairs_changed bn__law_pairs_changed (fun vs H Q E h => ?_) (fun f cdv A outer s H vs Q E hr h => ?_)
  · first | (obtain ⟨rfl, _⟩ := h; rfl) | (obtain ⟨_, rfl, _⟩ := h; rfl) | (obtain ⟨_, _, rfl, _⟩ := h; rfl) | (obtain ⟨_, _, _, rfl, _⟩ := h; rfl) | (obtain ⟨_, _, _, _, rfl, _⟩ := h; rfl) | (obtain ⟨_, _, _, _, _, rfl, _⟩ := h; rfl) | (obtain ⟨_, _, _, _, _, _, rfl, _⟩ := h; rfl) | (obtain ⟨_, _, _, _, _, _, _, rfl, _⟩ := h; rfl) | (obtain ⟨_, _, _, _, _, _, _, _, rfl, _⟩ := h; rfl) | (obtain ⟨_, _, _, _, _, _, _, _, _, rfl, _⟩ := h; rfl) | (obtain ⟨_, _, _, _, _, _, _, _, _, _, rfl, _⟩ := h; rfl) | (obtain ⟨_, _, _, _, _, _, _, _, _, _, _, rfl, _⟩ := h; rfl) | (obtain ⟨_, _, _, _, _, _, _, _, _, _, _, _, rfl, _⟩ := h; rfl)
  · skip
    refine ⟨_, (pss_cons (ps_set (i := 2) sc__law_pairs_changed.nd rfl (Or.inl rfl) (Fx.pe_cB Fx.len_L T.b_len (by decide +kernel) (Fx.pa_c (pv 1) pa_nil)))
        (pss_cons (ps_set (i := 3) sc__law_pairs_changed.nd rfl (Or.inl rfl) (Fx.pe_cTy Fx.list_L T.b_list (by decide +kernel) (Fx.pa_c (pv 1) pa_nil)))
        (pss_cons (ps_set (i := 4) sc__law_pairs_changed.nd rfl (Or.inl rfl) (Fx.pe_cal C__law_pick (hr.mono (by decide)) pass0 (Fx.pa_c (pv 0) (Fx.pa_c (pv 2) pa_nil))))
        (pss_cons (ps_asg (pe_ix Fx.ix_L (pv 3) (pv 4) (fun _ _ => rfl)) (pg_tup rfl (pgs_cons (pg_name (i := 5) sc__law_pairs_changed.nd rfl (Or.inl rfl)) (pgs_cons (pg_name (i := 6) sc__law_pairs_changed.nd rfl (Or.inl rfl)) pgs_nil))))
        (pss_cons (ps_set (i := 7) sc__law_pairs_changed.nd rfl (Or.inl rfl) (Fx.pe_cal C__law_pick (hr.mono (by decide)) pass0 (Fx.pa_c (pv 0) (Fx.pa_c pe_int pa_nil))))
        (pss_cons (ps_if (pt_cmpR op_lt (pv 7) pe_int (nomark _)) (pss_one (ps_asg (pe_tup (Fx.pa_c (Fx.pe_cal C__law_pick (hr.mono (by decide)) pass0 (Fx.pa_c (pv 0) (Fx.pa_c (pe_op op_add (pv 2) pe_int) pa_nil))) (Fx.pa_c (pv 6) pa_nil))) (pg_sub (pv 3) (pv 4) set_list))) (pss_one (ps_if (pt_cmpR op_eq (pv 7) pe_int (nomark _)) (pss_one (ps_asg (pe_tup (Fx.pa_c (Fx.pe_cal C__law_odd (hr.mono (by decide)) pass0 (Fx.pa_c (pv 0) (Fx.pa_c (pv 2) pa_nil))) (Fx.pa_c (pv 6) pa_nil))) (pg_sub (pv 3) (pv 4) set_list))) (pss_one (ps_if (pt_val (Fx.pe_cB Fx.is_B T.b_isinstance (by decide +kernel) (Fx.pa_c (pv 6) (Fx.pa_c (pe_bltn (v := .ty "tuple") (by rfl) T.b_tuple (by decide +kernel) rfl) pa_nil)))) (pss_one (ps_asg (pe_tup (Fx.pa_c (pv 5) (Fx.pa_c (Fx.pe_cal C__law_odd_marks (hr.mono (by decide)) pass0 (Fx.pa_c (pv 0) (Fx.pa_c (pv 6) pa_nil))) pa_nil))) (pg_sub (pv 3) (pv 4) set_list))) pss_nil)))))
        (pss_one (ps_ret (pv 3))))))))), ?_⟩
    obtain ⟨b, p, as, rs, L, rfl, hB, R, n1, n60, L32, L39, q⟩ := h
    obtain ⟨n, en⟩ : ∃ n, n = rs.length := ⟨_, rfl⟩
    refine seqI fun K1 k1 => ?_
    walk_at "rd"
    refine ⟨_, R.h, k1 _ _ ?_⟩
    clear k1
    rw [show (((as.map V.ref).length : Nat) : Int) = (n : Nat) by rw [List.length_map, R.la, en]]
    refine seqI fun K1 k1 => ?_
    walk_at "rd"
    refine ⟨_, R.h, fun q0 nq0 => k1 _ _ ?_⟩
    clear k1
    have s1 := same_new (o := .lst (as.map V.ref)) nq0
    have hq1 : (upd H q0 (.lst (as.map V.ref))) q0 = some (.lst (as.map V.ref)) := upd_same
    generalize upd H q0 (.lst (as.map V.ref)) = H1 at s1 hq1
    refine seqI fun K1 k1 => ?_
    walk_at "rd"
    refine ⟨b, _, rfl, hB.same s1, by omega, by omega, fun j H2 j0 j1 kp2 => k1 _ _ ?_⟩
    clear k1
    obtain ⟨j, rfl⟩ := ni_nat j0
    have hq2 := kp2.lst (hB.same s1) hq1
    have kp2 := (Kp.same hB s1).trans kp2
    have R2 := R.kp hB kp2
    have B2 := kp2.bag
    have la := R.la
    have hj : j < rs.length := by omega
    have e1 := List.getElem?_eq_getElem hj
    have a1 := List.getElem?_eq_getElem (by omega : j < as.length)
    obtain ⟨v0, v1, gH, gH0, gH1⟩ := R.row j _ _ a1 e1
    have g0 := kp2.tup hB gH
    have g1 := gH0.kp hB kp2
    have g2 := gH1.kp hB kp2
    have sm := R.sm _ (List.getElem_mem hj)
    refine seqI fun K1 k1 => ?_
    walk_at "rd"
    refine ⟨_, hq2, _, atI_get (i := j) (by rw [List.getElem?_map, a1]; rfl), _, rfl, _, .inl (.inl g0), rfl, _, _, rfl, _, _, rfl, rfl, k1 _ _ ?_⟩
    clear k1
    refine seqI fun K1 k1 => ?_
    walk_at "rd"
    refine ⟨b, _, rfl, B2, by decide, by decide, fun way H3 w0 w1 kp3 => k1 _ _ ?_⟩
    clear k1
    have hq3 := kp3.lst B2 hq2
    have g1 := g1.kp B2 kp3
    have g2 := g2.kp B2 kp3
    have R3 := R2.kp B2 kp3
    have kp3 := kp2.trans kp3
    clear kp2 B2 R2 hq2
    have B3 := kp3.bag
    refine seqI fun K1 k1 => ?_
    have fin : ∀ (y0 y1 : V) (r' : PR) (H5 : Hp) (t : Addr), Kp b H3 H5 → H5 q0 = some (.lst (as.map V.ref)) → H5 t = some (.tup [y0, y1]) → LP (upd H5 q0 (.lst ((as.map V.ref).set j (.ref t)))) p as rs L → Dv (upd H5 q0 (.lst ((as.map V.ref).set j (.ref t)))) y0 r'.1 → Dv (upd H5 q0 (.lst ((as.map V.ref).set j (.ref t)))) y1 r'.2 → MkOk (L + 1) r'.2 → Se r'.1 → K1 [some (.ref b), some (.ref p), some (.int (n : Nat)), some (.ref q0), some (.int (j : Nat)), some v0, some v1, some (.int way)] (upd H5 q0 (.lst ((as.map V.ref).set j (.ref t)))) := by
      intro y0 y1 r' H5 t kp5 hq5 ht R5 d0 d1 sm1 sm0
      refine k1 _ _ ?_
      walk_at "rd"
      have ht6 : (upd H5 q0 (.lst ((as.map V.ref).set j (.ref t)))) t = some (.tup [y0, y1]) := by
        rw [upd_ne (ne_of ht hq5 (by intro z; cases z))]
        exact ht
      refine q q0 (as.set j t) (rs.set j r') _ (Kp.put hB (kp3.trans kp5) nq0) ⟨by rw [upd_same, List.map_set], by rw [List.length_set, List.length_set]; exact la, fun i a r e1 e2 => ?_, fun r hr => ?_⟩ (List.length_set ..)
      · by_cases e : j = i
        · subst e
          rw [List.getElem?_set_self (by omega)] at e1 e2
          cases e1
          cases e2
          exact ⟨y0, y1, ht6, d0, d1⟩
        · rw [List.getElem?_set_ne e] at e1 e2
          exact R5.row i a r e1 e2
      · rcases List.mem_or_eq_of_mem_set hr with h | rfl
        · exact ⟨(R.sm r h).1.mono (Nat.le_succ L), (R.sm r h).2⟩
        · exact ⟨sm1, sm0⟩
    refine ifI fun A2 B2 ka kb => ?_
    walk_at "rd"
    refine ite_i (fun g => ka _ ?_) (fun g => ?_)
    · clear ka kb
      walk_at "rd"
      refine ⟨b, _, rfl, B3, by omega, by omega, fun m H4 m0 m1 kp4 => ⟨by decide, fun t nt => ⟨_, same_new nt _ _ (kp4.lst B3 hq3), j, ix_ref (by omega), ?_⟩⟩⟩
      obtain ⟨m, rfl⟩ := ni_nat m0
      have kp5 := kp4.then (same_new (o := .tup [.int (m : Nat), v1]) nt)
      have kpp : Kp b H (upd (upd H4 t (.tup [.int (m : Nat), v1])) q0 (.lst ((as.map V.ref).set j (.ref t)))) := Kp.put hB (kp3.trans kp5) nq0
      exact fin _ _ (.int (m : Nat), rs[j].2) _ t kp5 (same_new nt _ _ (kp4.lst B3 hq3)) upd_same (R.kp hB kpp) (.int _) (gH1.kp hB kpp) (sm.1.mono (Nat.le_succ L)) (sm_i (by omega) (by omega))
    clear ka
    refine kb _ ?_
    clear kb
    refine ifI fun A2 B2 ka kb => ?_
    walk_at "rd"
    refine ite_i (fun g => ka _ ?_) (fun g => ?_)
    · clear ka kb
      walk_at "rd"
      refine ⟨b, _, rfl, B3, by omega, fun m dm H4 kp4 hm sdm => ⟨by decide, fun t nt => ⟨_, same_new nt _ _ (kp4.lst B3 hq3), j, ix_ref (by omega), ?_⟩⟩⟩
      have kp5 := kp4.then (same_new (o := .tup [m, v1]) nt)
      have hq5 := same_new (o := .tup [m, v1]) nt _ _ (kp4.lst B3 hq3)
      have kpp : Kp b H (upd (upd H4 t (.tup [m, v1])) q0 (.lst ((as.map V.ref).set j (.ref t)))) := Kp.put hB (kp3.trans kp5) nq0
      exact fin _ _ (dm, rs[j].2) _ t kp5 hq5 upd_same (R.kp hB kpp) (Dv.mapT (fun a xs e => by rw [upd_ne (ne_of e hq5 (by intro z; cases z))]; exact e) dm m sdm.n (hm.same (same_new nt))) (gH1.kp hB kpp) (sm.1.mono (Nat.le_succ L)) sdm
    clear ka
    refine kb _ ?_
    clear kb
    refine ifI fun A2 B2 ka kb => ?_
    walk_at "rd"
    obtain ⟨tt, ht, hk⟩ := g2.tpd
    refine ⟨tt, ht, _, hk, ?_⟩
    cases hT : isTp rs[j].2 with
    | false =>
      rw [if_neg (by decide)]
      refine kb _ ?_
      walk_at "rd"
      refine k1 _ _ ?_
      walk_at "rd"
      exact q q0 as rs H3 kp3 ⟨hq3, la, R3.row, fun r hr => ⟨(R.sm r hr).1.mono (Nat.le_succ L), (R.sm r hr).2⟩⟩ rfl
    | true =>
      rw [if_pos rfl]
      refine ka _ ?_
      clear ka kb
      obtain ⟨ds, e2⟩ : ∃ ds, rs[j].2 = .tuple ds := by
        cases e2 : rs[j].2 with
        | tuple ds => exact ⟨ds, rfl⟩
        | _ => rw [e2] at hT; cases hT
      obtain ⟨pm, rfl⟩ : ∃ pm, v1 = .ref pm := by
        rw [e2] at g2
        cases g2
        exact ⟨_, rfl⟩
      walk_at "rd"
      refine ⟨b, pm, ds, L, rfl, B3, by rw [← e2]; exact g2, by rw [← e2]; exact sm.1, by omega, fun m dm H4 kp4 hm okm => ⟨by decide, fun t nt => ⟨_, same_new nt _ _ (kp4.lst B3 hq3), j, ix_ref (by omega), ?_⟩⟩⟩
      have kp5 := kp4.then (same_new (o := .tup [v0, m]) nt)
      have hq5 := same_new (o := .tup [v0, m]) nt _ _ (kp4.lst B3 hq3)
      have kpp : Kp b H (upd (upd H4 t (.tup [v0, m])) q0 (.lst ((as.map V.ref).set j (.ref t)))) := Kp.put hB (kp3.trans kp5) nq0
      have hm' : Dv (upd (upd H4 t (.tup [v0, m])) q0 (.lst ((as.map V.ref).set j (.ref t)))) m dm := hm _ (fun a xs e => by
        have e := same_new (o := .tup [v0, m]) nt _ _ e
        rw [upd_ne (ne_of e hq5 (by intro z; cases z))]
        exact e) fun a xs na e => by
        rw [upd_ne (fun z => by rw [z, hq3] at na; cases na)]
        exact same_new (o := .tup [v0, m]) nt _ _ e
      exact fin _ _ (rs[j].1, dm) _ t kp5 hq5 upd_same (R.kp hB kpp) (gH0.kp hB kpp) hm' (okm.mono (by omega)) sm.2
end
section
variable {P : Program} {w : World} {K : PySem.W.Frag} {mg : Str → Option Value} {base : Heap}
theorem ok__law_parts (S : Src K mg "_law_parts" s__law_parts) (T : Tx P K mg)   : Cal P w K mg base CX0 1 "_law_parts" ["_law_told", "_law_thing"] spLPartsG := by
  refine S.cal sc__law_parts bn__law_parts (fun vs H Q E h => ?_) (fun f cdv A outer s H vs Q E hr h => ?_)
  · first | (obtain ⟨rfl, _⟩ := h; rfl) | (obtain ⟨_, rfl, _⟩ := h; rfl) | (obtain ⟨_, _, rfl, _⟩ := h; rfl) | (obtain ⟨_, _, _, rfl, _⟩ := h; rfl) | (obtain ⟨_, _, _, _, rfl, _⟩ := h; rfl) | (obtain ⟨_, _, _, _, _, rfl, _⟩ := h; rfl) | (obtain ⟨_, _, _, _, _, _, rfl, _⟩ := h; rfl) | (obtain ⟨_, _, _, _, _, _, _, rfl, _⟩ := h; rfl) | (obtain ⟨_, _, _, _, _, _, _, _, rfl, _⟩ := h; rfl) | (obtain ⟨_, _, _, _, _, _, _, _, _, rfl, _⟩ := h; rfl) | (obtain ⟨_, _, _, _, _, _, _, _, _, _, rfl, _⟩ := h; rfl) | (obtain ⟨_, _, _, _, _, _, _, _, _, _, _, rfl, _⟩ := h; rfl) | (obtain ⟨_, _, _, _, _, _, _, _, _, _, _, _, rfl, _⟩ := h; rfl)
  · skip
    refine ⟨_, (pss_cons (ps_set (i := 2) sc__law_parts.nd rfl (Or.inl rfl) (pe_lst pa_nil))
        (pss_cons (ps_set (i := 3) sc__law_parts.nd rfl (Or.inl rfl) (pe_ix Fx.ix_T (pe_ix Fx.ix_L (pv 0) (pe_op op_sub (pv 1) pe_int) (fun _ _ => rfl)) pe_int (fun _ _ => rfl)))
        (pss_cons (ps_for PassesOwn.never rfl (pi_range1 rfl T.b_range (Fx.pa_c (Fx.pe_cB Fx.len_L T.b_len (by decide +kernel) (Fx.pa_c (pv 0) pa_nil)) pa_nil)) (pg_name (i := 4) sc__law_parts.nd rfl (Or.inl rfl)) (pss_one (ps_if (pt_cmpR op_ne (pv 3) pe_int (nomark _)) (pss_cons (ps_expr (pe_bm PySem.F.plainAttrs_list PySem.F.slot_list_append PySem.F.type_list_append mt_append (pv 2) (Fx.pa_c (pv 3) pa_nil)))
        (pss_one (ps_set (i := 3) sc__law_parts.nd rfl (Or.inl rfl) (pe_ix Fx.ix_T (pe_ix Fx.ix_L (pv 0) (pe_op op_sub (pv 3) pe_int) (fun _ _ => rfl)) pe_int (fun _ _ => rfl))))) pss_nil)))
        (pss_one (ps_ret (pv 2)))))), ?_⟩
    obtain ⟨p, as, rs, L, j, rfl, R, n60, hj, fb, q⟩ := h
    obtain ⟨n, en⟩ : ∃ n, n = rs.length := ⟨_, rfl⟩
    obtain ⟨all, am⟩ := fb.good
    obtain ⟨vh, vb⟩ := holB_le all
    obtain ⟨⟨P, h1, h2, h3⟩, _⟩ := am j hj
    have fle := firB_le all hj
    have q := q P
    obtain ⟨f, ef⟩ : ∃ f, f = natD ((rs.map fun r => r.2.2.2).getD j .none) := ⟨_, rfl⟩
    rw [← ef] at fle h3 q
    refine seqI fun K1 k1 => ?_
    walk_at "rd"
    refine ⟨Nat.zero_le _, fun q0 n0 => k1 _ _ ?_⟩
    clear k1
    have s0 := same_new (o := .lst []) n0
    obtain ⟨ra, w0, _, ha, hra⟩ := (R.same s0).get all (z := j + 1) (by omega) (by omega)
    rw [show j + 1 - 1 = j by omega, ← ef] at hra
    refine seqI fun K1 k1 => ?_
    walk_at "rd"
    refine ⟨_, s0 _ _ R.h, _, ha, _, rfl, _, hra, _, rfl, k1 _ _ ?_⟩
    clear k1
    refine seqI fun K0 k0 => ?_
    refine forI fun R0 hR => ?_
    walk_at "rd"
    refine ⟨_, s0 _ _ R.h, by rw [List.length_map, R.la]; omega, by rw [List.length_map, R.la]; omega, hR _ _ ?_⟩
    clear hR
    rw [Int.toNat_natCast, List.length_map, R.la]
    refine for_range (lo := 0) (n := rs.length) (fun k σ H2 => ∃ (v4 : Option V) (l : List Nat) (g : Nat), σ = [some (.ref p), some (.int ((j + 1 : Nat) : Int)), some (.ref q0), some (.int (g : Nat)), v4] ∧ Seg (besB rs) f l g ∧ g ≤ rs.length ∧ l.length ≤ k ∧ (l.length = k ∨ g = 0) ∧ H2 = upd H q0 (.lst (ni l))) ⟨none, [], f, rfl, rfl, fle, Nat.le_refl _, .inl rfl, rfl⟩ ?_ ?_
    · rintro k σ H2 hk ⟨v4, l, g, rfl, sg, hg, lk, lg, rfl⟩
      refine ifI fun A2 B2 ka kb => ?_
      walk_at "rd"
      by_cases z : g = 0
      · rw [if_pos (by omega)]
        refine kb _ ?_
        walk_at "rd"
        exact ⟨_, l, g, rfl, rfl, sg, hg, by omega, .inr z, rfl⟩
      · rw [if_neg (by omega)]
        refine ka _ ?_
        walk_at "rd"
        have sr := same_new (o := .lst (ni l ++ [.int (g : Nat)])) n0
        obtain ⟨a2, u0, _, g1, g2⟩ := (R.same sr).get all (z := g) (by omega) hg
        have lk2 : l.length = k := lg.resolve_right z
        refine ⟨tyL upd_same, ?_⟩
        walk_at "rd"
        rw [upd_upd]
        exact ⟨by rw [ni_len]; exact Nat.lt_of_lt_of_le (by omega : _ < 100) (by decide), _, sr _ _ R.h, _, g1, _, rfl, _, g2, _, rfl, _, l ++ [g], _, rfl, rfl, seg_snoc sg z, getD_le vb, by rw [List.length_append, List.length_singleton]; omega, .inl (by rw [List.length_append, List.length_singleton]; omega), by rw [ni_app]; rfl⟩
    rintro σ H2 ⟨v4, l, g, rfl, sg, hg, lk, lg, rfl⟩
    refine k0 _ _ ?_
    walk_at "rd"
    obtain ⟨r, e, c⟩ := seg_split sg h3
    have lP := nodup_le (a := P) (b := List.range' 1 rs.length) h1 fun z hz => by have := (h2 z).mp hz; exact List.mem_range'_1.mpr ⟨this.1, by omega⟩
    rw [List.length_range'] at lP
    have er : r = [] := by
      cases r with
      | nil => rfl
      | cons y r =>
        have g0 : g ≠ 0 := fun z => by
          have := c.1
          exact c.2.1 (by rw [← this, z])
        rw [e, List.length_append, List.length_cons, lg.resolve_right g0] at lP
        omega
    rw [er, List.append_nil] at e
    subst e
    exact q q0 _ h1 h2 h3 (same_new n0) n0 upd_same
end
section
variable {P : Program} {w : World} {K : PySem.W.Frag} {mg : Str → Option Value} {base : Heap}
theorem ok_law {f0 : Addr} {fd : FuncData} (F : FunD K "law" "law" (defArgs s_law) (defBody s_law) (defScope s_law) [] [] f0 fd) (T : Tx P K mg) (C__law_bag : Cal P w K mg base CX0 1 "_law_bag" ["_law_script"] (spBag K)) (C__law_pick : Cal P w K mg base CX0 1 "_law_pick" ["_law_bag_here", "_law_many"] spPick) (C__law_one_in : Cal P w K mg base CX0 2 "_law_one_in" ["_law_bag_here", "_law_many"] spOneIn) (C__law_drawn_told : Cal P w K mg base CX0 4 "_law_drawn_told" ["_law_bag_here", "_law_many", "_law_most"] spLDrawn) (C__law_changed : Cal P w K mg base CX0 4 "_law_changed" ["_law_bag_here", "_law_told"] spLChanged) (C__law_pairs_changed : Cal P w K mg base CX0 4 "_law_pairs_changed" ["_law_bag_here", "_law_pairs"] spLPChanged) (C__law_judged : CalG P w K mg base CX0 6 "_law_judged" ["_law_told"] spLJudged) (C__law_due : CalG P w K mg base CX0 4 "_law_due" ["_law_told"] spLDue) (C__law_pairs_judged : CalG P w K mg base CX0 5 "_law_pairs_judged" ["_law_pairs"] spLPJudged) (C__law_pairs_due : CalG P w K mg base CX0 3 "_law_pairs_due" ["_law_pairs"] spLPDue) (C_Tree_M_of : CalS P w K mg base (L2.CX P w) 5 (He.ga K "Tree") "of" ["rows"] (spOfG K)) (C_Tree_M_parts_of : CalM P w K mg base (L2.CX P w) 4 (He.ga K "Tree") "parts_of" ["self", "thing"] (spParts K)) (C__law_parts : Cal P w K mg base CX0 1 "_law_parts" ["_law_told", "_law_thing"] spLPartsG) (C_Tree_M_told : CalM P w K mg base CX0 1 (He.ga K "Tree") "told" ["self"] (spTold K)) (C_Tree_MU_eqU : CalM P w K mg base CX0 2 (He.ga K "Tree") "__eq__" ["self", "other"] (spEqT K))  : FnG P w K mg base CX0 7 f0 fd ["_law_script"] (spLaw K) := by
  refine lawG F sc_law (fun vs H Q E h => ?_) (fun f cdv A outer s H vs Q E hG hr h => ?_)
  · first | (obtain ⟨rfl, _⟩ := h; rfl) | (obtain ⟨_, rfl, _⟩ := h; rfl) | (obtain ⟨_, _, rfl, _⟩ := h; rfl) | (obtain ⟨_, _, _, rfl, _⟩ := h; rfl) | (obtain ⟨_, _, _, _, rfl, _⟩ := h; rfl) | (obtain ⟨_, _, _, _, _, rfl, _⟩ := h; rfl) | (obtain ⟨_, _, _, _, _, _, rfl, _⟩ := h; rfl) | (obtain ⟨_, _, _, _, _, _, _, rfl, _⟩ := h; rfl) | (obtain ⟨_, _, _, _, _, _, _, _, rfl, _⟩ := h; rfl) | (obtain ⟨_, _, _, _, _, _, _, _, _, rfl, _⟩ := h; rfl) | (obtain ⟨_, _, _, _, _, _, _, _, _, _, rfl, _⟩ := h; rfl) | (obtain ⟨_, _, _, _, _, _, _, _, _, _, _, rfl, _⟩ := h; rfl) | (obtain ⟨_, _, _, _, _, _, _, _, _, _, _, _, rfl, _⟩ := h; rfl)
  · skip
    obtain ⟨p_Tree_M_of, f_Tree_M_of, fd_Tree_M_of, m_Tree_M_of, r_Tree_M_of, b_Tree_M_of, G_Tree_M_of⟩ := C_Tree_M_of.ex
    obtain ⟨f_Tree_M_parts_of, fd_Tree_M_parts_of, m_Tree_M_parts_of, b_Tree_M_parts_of, G_Tree_M_parts_of⟩ := C_Tree_M_parts_of.ex
    obtain ⟨f_Tree_M_told, fd_Tree_M_told, m_Tree_M_told, b_Tree_M_told, G_Tree_M_told⟩ := C_Tree_M_told.ex
    obtain ⟨f_Tree_MU_eqU, fd_Tree_MU_eqU, m_Tree_MU_eqU, b_Tree_MU_eqU, G_Tree_MU_eqU⟩ := C_Tree_MU_eqU.ex
    refine ⟨_, (pss_cons (ps_set (i := 1) sc_law.nd rfl (Or.inl rfl) (Fx.pe_cal C__law_bag (hr.mono (by decide)) pass0 (Fx.pa_c (pv 0) pa_nil)))
        (pss_cons (ps_set (i := 2) sc_law.nd rfl (Or.inl rfl) (pe_op op_add pe_int (Fx.pe_cal C__law_pick (hr.mono (by decide)) pass0 (Fx.pa_c (pv 1) (Fx.pa_c pe_int pa_nil)))))
        (pss_cons (ps_if (pt_val (Fx.pe_cal C__law_one_in (hr.mono (by decide)) pass0 (Fx.pa_c (pv 1) (Fx.pa_c pe_int pa_nil)))) (pss_one (ps_set (i := 2) sc_law.nd rfl (Or.inl rfl) (pe_op op_add pe_int (Fx.pe_cal C__law_pick (hr.mono (by decide)) pass0 (Fx.pa_c (pv 1) (Fx.pa_c pe_int pa_nil)))))) pss_nil)
        (pss_cons (ps_set (i := 3) sc_law.nd rfl (Or.inl rfl) (Fx.pe_cal C__law_drawn_told (hr.mono (by decide)) pass0 (Fx.pa_c (pv 1) (Fx.pa_c (pv 2) (Fx.pa_c pe_int pa_nil)))))
        (pss_cons (ps_set (i := 4) sc_law.nd rfl (Or.inl rfl) (pv 3))
        (pss_cons (ps_setLc (i := 5) (own := [("_law_row", 10)]) rfl sc_law.nd rfl rfl (sw_true rfl rfl rfl (by decide +kernel)) (pi_list (pv 3)) (blkOk_by (N := N_law) (sc := defScope s_law) (by decide +kernel)) (fun _ _ _ _ _ => (pg_name (i := 10) sc_law.nd rfl (Or.inl rfl))) (fun _ _ _ _ _ => pts_nil) (fun _ _ _ _ _ => (pe_tup (Fx.pa_c (pe_ix Fx.ix_T (pv 10) pe_int (fun _ _ => rfl)) (Fx.pa_c (pe_ix Fx.ix_T (pv 10) pe_int (fun _ _ => rfl)) pa_nil)))))
        (pss_cons (ps_for PassesOwn.never rfl (pi_range1 rfl T.b_range (Fx.pa_c (Fx.pe_cal C__law_pick (hr.mono (by decide)) pass0 (Fx.pa_c (pv 1) (Fx.pa_c pe_int pa_nil))) pa_nil)) (pg_name (i := 6) sc_law.nd rfl (Or.inl rfl)) (pss_cons (ps_set (i := 4) sc_law.nd rfl (Or.inl rfl) (Fx.pe_cal C__law_changed (hr.mono (by decide)) pass0 (Fx.pa_c (pv 1) (Fx.pa_c (pv 4) pa_nil))))
        (pss_cons (ps_set (i := 5) sc_law.nd rfl (Or.inl rfl) (Fx.pe_cal C__law_pairs_changed (hr.mono (by decide)) pass0 (Fx.pa_c (pv 1) (Fx.pa_c (pv 5) pa_nil))))
        (pss_cons (ps_if (pt_cmpR (op_neD hr.units) (Fx.pe_calG C__law_judged hG (hr.mono (by decide)) pass0 (Fx.pa_c (Fx.pe_cTy Fx.list_L T.b_list (by decide +kernel) (Fx.pa_c (pv 4) pa_nil)) pa_nil)) (Fx.pe_calG C__law_due hG (hr.mono (by decide)) pass0 (Fx.pa_c (pv 4) pa_nil)) (nomark _)) (pss_one (ps_ret pe_bl)) pss_nil)
        (pss_cons (ps_set (i := 7) sc_law.nd rfl (Or.inl rfl) (Fx.pe_cTy Fx.list_L T.b_list (by decide +kernel) (Fx.pa_c (pv 5) pa_nil)))
        (pss_one (ps_if (PW.pt (pw_or (pt_cmpR (op_neD hr.units) (Fx.pe_calG C__law_pairs_judged hG (hr.mono (by decide)) pass0 (Fx.pa_c (pv 7) pa_nil)) (Fx.pe_calG C__law_pairs_due hG (hr.mono (by decide)) pass0 (Fx.pa_c (pv 5) pa_nil)) (nomark _)) (pw_or1 (pt_cmpR op_ne (Fx.pe_cB (Fx.call_reprK (K := K) rfl hG hr.units) T.b_repr (by decide +kernel) (Fx.pa_c (pv 7) pa_nil)) (Fx.pe_cB (Fx.call_reprK (K := K) rfl hG hr.units) T.b_repr (by decide +kernel) (Fx.pa_c (pv 5) pa_nil)) (nomark _))))) (pss_one (ps_ret pe_bl)) pss_nil)))))))
        (pss_cons (ps_set (i := 7) sc_law.nd rfl (Or.inl rfl) (Fx.pe_cTy Fx.list_L T.b_list (by decide +kernel) (Fx.pa_c (pv 4) pa_nil)))
        (pss_cons (ps_if (PW.pt (pw_or (pt_cmpR (op_neD hr.units) (Fx.pe_calG C__law_judged hG (hr.mono (by decide)) pass0 (Fx.pa_c (Fx.pe_cTy Fx.tup_L T.b_tuple (by decide +kernel) (Fx.pa_c (pv 4) pa_nil)) pa_nil)) (Fx.pe_calG C__law_due hG (hr.mono (by decide)) pass0 (Fx.pa_c (pv 4) pa_nil)) (nomark _)) (pw_or (pt_cmpR (op_neD hr.units) (Fx.pe_calG C__law_judged hG (hr.mono (by decide)) pass0 (Fx.pa_c (pv 7) pa_nil)) (Fx.pe_calG C__law_due hG (hr.mono (by decide)) pass0 (Fx.pa_c (pv 4) pa_nil)) (nomark _)) (pw_or1 (pt_cmpR op_ne (Fx.pe_cB (Fx.call_reprK (K := K) rfl hG hr.units) T.b_repr (by decide +kernel) (Fx.pa_c (pv 7) pa_nil)) (Fx.pe_cB (Fx.call_reprK (K := K) rfl hG hr.units) T.b_repr (by decide +kernel) (Fx.pa_c (pv 4) pa_nil)) (nomark _)))))) (pss_one (ps_ret pe_bl)) pss_nil)
        (pss_cons (ps_if (PW.pt (pw_or (pt_cmpR (op_neD hr.units) (Fx.pe_calG C__law_judged hG (hr.mono (by decide)) pass0 (Fx.pa_c (pv 3) pa_nil)) (pe_lst (Fx.pa_c pe_str (Fx.pa_c (Fx.pe_cB (Fx.call_reprK (K := K) rfl hG hr.units) T.b_repr (by decide +kernel) (Fx.pa_c (Fx.pe_cTy Fx.tup_L T.b_tuple (by decide +kernel) (Fx.pa_c (pv 3) pa_nil)) pa_nil)) (Fx.pa_c pe_bl pa_nil)))) (nomark _)) (pw_or1 (pt_cmpR (op_neD hr.units) (Fx.pe_calG C__law_pairs_judged hG (hr.mono (by decide)) pass0 (Fx.pa_c (Fx.pe_cTy Fx.tup_L T.b_tuple (by decide +kernel) (Fx.pa_c (pv 5) pa_nil)) pa_nil)) (Fx.pe_calG C__law_pairs_due hG (hr.mono (by decide)) pass0 (Fx.pa_c (pv 5) pa_nil)) (nomark _))))) (pss_one (ps_ret pe_bl)) pss_nil)
        (pss_cons (ps_set (i := 8) sc_law.nd rfl (Or.inl rfl) (Fx.pe_smeth (pe_glob (v := .ref (He.ga K "Tree")) rfl T.g_Tree rfl) r_Tree_M_of m_Tree_M_of G_Tree_M_of (hr.mono (by decide)) b_Tree_M_of Fx.passX (Fx.pa_c (pv 3) pa_nil)))
        (pss_cons (ps_for PassesOwn.never rfl (pi_range2 rfl T.b_range (Fx.pa_c pe_int (Fx.pa_c (pe_op op_add (pv 2) pe_int) pa_nil))) (pg_name (i := 9) sc_law.nd rfl (Or.inl rfl)) (pss_one (ps_if (pt_cmpR op_ne (Fx.pe_cB (Fx.call_reprK (K := K) rfl hG hr.units) T.b_repr (by decide +kernel) (Fx.pa_c (pe_meth (pv 8) T.cl_Tree m_Tree_M_parts_of G_Tree_M_parts_of (hr.mono (by decide)) b_Tree_M_parts_of .nil Fx.passX (Fx.pa_c (pv 9) pa_nil)) pa_nil)) (Fx.pe_cB (Fx.call_reprK (K := K) rfl hG hr.units) T.b_repr (by decide +kernel) (Fx.pa_c (Fx.pe_cTy Fx.tup_L T.b_tuple (by decide +kernel) (Fx.pa_c (Fx.pe_cal C__law_parts (hr.mono (by decide)) pass0 (Fx.pa_c (pv 3) (Fx.pa_c (pv 9) pa_nil))) pa_nil)) pa_nil)) (nomark _)) (pss_one (ps_ret pe_bl)) pss_nil)))
        (pss_cons (ps_if (pt_cmpR (Fx.op_eqOwn C_Tree_MU_eqU (hr.mono (by decide)) pass0) (pv 8) (Fx.pe_smeth (pe_glob (v := .ref (He.ga K "Tree")) rfl T.g_Tree rfl) r_Tree_M_of m_Tree_M_of G_Tree_M_of (hr.mono (by decide)) b_Tree_M_of Fx.passX (Fx.pa_c (pe_meth0 (pv 8) T.cl_Tree m_Tree_M_told G_Tree_M_told (hr.mono (by decide)) b_Tree_M_told .nil pass0) pa_nil)) (nomark _)) (pss_one (ps_ret pe_bl)) pss_nil)
        (pss_one (ps_ret pe_bl))))))))))))))), ?_⟩
    obtain ⟨a, ns, rfl, hS, hlen, q⟩ := h
    refine seqI fun K1 k1 => ?_
    walk_at "rd"
    refine ⟨a, ns, rfl, hS, hlen, fun b H1 s1 n1 B1 => k1 _ _ ?_⟩
    clear k1 s1 n1
    refine seqI fun K1 k1 => ?_
    walk_at "rd"
    refine ⟨b, _, rfl, B1, by decide, by decide, fun m H2 m0 m1 kp2 => ⟨m, rfl, k1 _ _ ?_⟩⟩
    clear k1
    have B2 := kp2.bag
    obtain ⟨m, rfl⟩ := ni_nat m0
    clear kp2 B1
    refine seqI fun K1 k1 => ?_
    have go : ∀ (n : Nat) (H3 : Hp), 1 ≤ n → n ≤ 60 → Bag H3 b → K1 [some (.ref a), some (.ref b), some (.int (n : Nat)), none, none, none, none, none, none, none, none] H3 := by
      clear B2 m0 m1
      intro n H3 n1 n60 B3
      refine k1 _ _ ?_
      clear k1
      refine seqI fun K1 k1 => ?_
      walk_at "rd"
      refine ⟨b, n, rfl, B3, n1, n60, fun pg as0 rs0 H4 kp4 G0 l0 fb0 => k1 _ _ ?_⟩
      clear k1
      have B4 := kp4.bag
      clear kp4 B3
      refine seqI fun K1 k1 => ?_
      walk_at "rd"
      refine k1 _ _ ?_
      clear k1
      obtain ⟨all0, am0⟩ := fb0.good
      refine seqI fun K1 k1 => ?_
      generalize hte : tTup (tCons (tOp rIxTt (tVar 10) (tC (V.int 1))) (tCons (tOp rIxTt (tVar 10) (tC (V.int 0))) tNil)) = te
      generalize hgg : gName 10 = gg
      generalize htt : tYes = tt
      unfold tLc
      walk_at "rd"
      refine ⟨⟨_, .inl (.inl G0.h)⟩, fun D nD => ?_⟩
      have la0 := G0.la
      refine lc_list (g := gg) (tt := tt) (te := te) (vs := [10]) (xs := as0.map V.ref) (σ := [some (.ref a), some (.ref b), some (.int (n : Nat)), some (.ref pg), some (.ref pg), none, none, none, none, none, none]) (fun i H' => ∃ bs : List Addr, bs.length = i ∧ H' D = some (.lst (bs.map V.ref)) ∧ (∀ (j : Nat) (bq : Addr) (r : BR), bs[j]? = some bq → rs0[j]? = some r → ∃ v0 v1, H' bq = some (.tup [v1, v0]) ∧ Dv H4 v1 r.2.1 ∧ Dv H4 v0 r.1) ∧ Same H4 H') ⟨[], rfl, upd_same, fun j bq r e => (by cases e), same_new nD⟩ (fun i H' _ ⟨_, _, _, _, s⟩ => .inl (.inl (s _ _ G0.h))) ?_ ?_
      · rintro i y H' hy ⟨bs, lb, hD, hbs, s5⟩
        obtain ⟨a1, r, rfl, ha, hr2, hm, ⟨v0, v1, v2, v3, g0, g1, g2, g3, g4⟩, hin⟩ := G0.rows.at_ hy
        have g0 := s5 _ _ g0
        rw [← htt, ← hte, ← hgg]
        refine ⟨rfl, ?_⟩
        walk_at "rd"
        refine ⟨_, g0, _, rfl, _, g0, _, rfl, by decide, fun pq npq => ?_⟩
        have s3 := same_new (o := .tup [v1, v0]) npq
        have hq3 : (upd H' pq (.tup [v1, v0])) pq = some (.tup [v1, v0]) := upd_same
        generalize upd H' pq (.tup [v1, v0]) = H3 at s3 hq3
        have hD3 := s3 _ _ hD
        have keep : ∀ {a : Addr} {xs : List V}, H3 a = some (.tup xs) → (upd H3 D (.lst (bs.map V.ref ++ [.ref pq]))) a = some (.tup xs) := fun h => by
          rw [upd_ne (ne_of h hD3 (by intro z; cases z))]
          exact h
        refine ⟨_, hD3, by rw [List.length_map, lb]; exact Nat.lt_of_lt_of_le (by omega : _ < 100) (by decide), bs ++ [pq], by rw [List.length_append, lb]; rfl, by rw [List.map_append]; rfl, fun j b r' e1 e2 => ?_, Same.put (s5.trans s3) nD⟩
        by_cases hj : j < bs.length
        · rw [List.getElem?_append_left hj] at e1
          obtain ⟨w0, w1, k1, k2, k3⟩ := hbs j b r' e1 e2
          exact ⟨w0, w1, keep (s3 _ _ k1), k2, k3⟩
        · have hj2 := (List.getElem?_eq_some_iff.mp e1).1
          rw [List.length_append, List.length_singleton] at hj2
          have ej : j = bs.length := by omega
          rw [ej, List.getElem?_append_right (Nat.le_refl _), Nat.sub_self] at e1
          cases e1
          rw [ej, lb, hr2] at e2
          cases e2
          exact ⟨v0, v1, keep hq3, g2, g1⟩
      rintro H5 ⟨bs, lb, hD, hbs, s5⟩
      clear hte hgg htt
      rw [List.length_map, la0] at lb
      refine k1 _ _ ?_
      clear k1
      have P5 : LP H5 D bs (rs0.map fun r => (r.2.1, r.1)) 33 := ⟨hD, by rw [lb, List.length_map], fun j bq r e1 e2 => by
        rw [List.getElem?_map] at e2
        cases e : rs0[j]? with
        | none => rw [e] at e2; cases e2
        | some r0 =>
          rw [e] at e2
          cases e2
          obtain ⟨v0, v1, k1, k2, k3⟩ := hbs j bq r0 e1 e
          exact ⟨v1, v0, k1, k2.same s5, k3.same s5⟩, fun r hr => by
        obtain ⟨r0, h0, rfl⟩ := List.mem_map.mp hr
        exact ⟨(G0.sm r0 h0).m, (G0.sm r0 h0).h⟩⟩
      have lP5 : (rs0.map fun r => ((r.2.1, r.1) : PR)).length = n := by rw [List.length_map, l0]
      generalize (rs0.map fun r => ((r.2.1, r.1) : PR)) = ps0 at P5 lP5
      have G5 := G0.same s5
      have B5 := B4.same s5
      clear hbs s5 hD lb G0 B4 nD la0
      refine seqI fun K0 k0 => ?_
      refine forI fun R0 hR => ?_
      walk_at "rd"
      refine ⟨b, 4, rfl, B5, by decide, by decide, fun m H6 m0 m1 kp6 => ⟨m, rfl, by omega, by omega, hR _ _ ?_⟩⟩
      clear hR
      obtain ⟨m, rfl⟩ := ni_nat m0
      rw [Int.toNat_natCast]
      refine for_range (lo := 0) (n := m) (fun i σ H' => ∃ (v6 v7 : Option V) (p4 p5 : Addr) (as4 as5 : List Addr) (rs4 : List BR) (rs5 : List PR), σ = [some (.ref a), some (.ref b), some (.int (n : Nat)), some (.ref pg), some (.ref p4), some (.ref p5), v6, v7, none, none, none] ∧ Kp b H5 H' ∧ LT H' p4 as4 rs4 (33 + i) ∧ rs4.length = n ∧ LP H' p5 as5 rs5 (33 + i) ∧ rs5.length = n) ⟨none, none, pg, D, as0, bs, rs0, ps0, rfl, kp6, G5.kp B5 kp6, l0, P5.kp B5 kp6, lP5⟩ ?_ ?_
      · rintro i σ H7 hi ⟨v6, v7, p4, p5, as4, as5, rs4, rs5, rfl, kp7, T4, l4, T5, l5⟩
        have B7 := kp7.bag
        refine seqI fun K1 k1 => ?_
        walk_at "rd"
        refine ⟨b, p4, as4, rs4, 33 + i, rfl, B7, T4, by omega, by omega, by omega, by omega, fun p4' as4' rs4' H8 kp8 T4' l4' => k1 _ _ ?_⟩
        clear k1
        have T5 := T5.kp B7 kp8
        have kp8 := kp7.trans kp8
        have B8 := kp8.bag
        clear B7 kp7 T4
        refine seqI fun K1 k1 => ?_
        walk_at "rd"
        refine ⟨b, p5, as5, rs5, 33 + i, rfl, B8, T5, by omega, by omega, by omega, by omega, fun p5' as5' rs5' H9 kp9 T5' l5' => k1 _ _ ?_⟩
        clear k1
        have T4' := T4'.kp B8 kp9
        have kp9 := kp8.trans kp9
        have B9 := kp9.bag
        clear B8 kp8 T5
        have s4 := sm_told T4'.sm (by omega)
        refine seqI fun K1 k1 => ?_
        refine ifI fun A2 B2 ka kb => ?_
        walk_at "rd"
        refine ⟨_, T4'.h, fun t1 nt1 => ⟨t1, as4', rs4', 33 + i + 1, rfl, (T4'.again nt1).rows, T4'.sm, by omega, by omega, fun k q1 H10 fb s10 nq1 hq1 => ?_⟩⟩
        have s910 := (same_new (o := .lst (as4'.map V.ref)) nt1).trans s10
        refine ⟨p4', as4', rs4', 33 + i + 1, rfl, T4'.same s910, by omega, by omega, fun k' q2 H11 fb' s11 nq2 hq2 => ?_⟩
        refine ne_ans (s11 _ _ hq1) hq2 (fb_uniq fb fb') (fun _ => s4.ok) (by have := fb_le fb; omega) ?_
        refine ⟨_, rfl, ?_⟩
        rw [if_neg (by decide)]
        refine kb _ (k1 _ _ ?_)
        clear ka kb k1
        have s911 := s910.trans s11
        have T4 := T4'.same s911
        have T5 := T5'.same s911
        have kp11 := kp9.then s911
        have B11 := kp11.bag
        clear s911 s910 s11 hq1 hq2 nq1 nq2 fb fb' s10 T4' T5' kp9 B9
        refine seqI fun K1 k1 => ?_
        walk_at "rd"
        refine ⟨_, T5.h, fun hd nhd => k1 _ _ ?_⟩
        clear k1
        have Th := T5.again nhd
        have s12 := same_new (o := .lst (as5'.map V.ref)) nhd
        generalize upd H11 hd (.lst (as5'.map V.ref)) = H12 at Th s12
        have T4 := T4.same s12
        have T5 := T5.same s12
        have kp12 := kp11.then s12
        refine ifI fun A2 B2 ka kb => ?_
        walk_at "rd"
        refine ⟨hd, as5', rs5', 33 + i + 1, rfl, Th.rows, fun r hr => (Th.sm r hr).1, by omega, by omega, by omega, fun k q1 H13 fb s13 nq1 hq1 => ?_⟩
        refine ⟨p5', as5', rs5', 33 + i + 1, rfl, T5.same s13, by omega, by omega, by omega, fun k' q2 H14 fb' s14 nq2 hq2 => ?_⟩
        refine ne_ans (s14 _ _ hq1) hq2 (fbp_uniq fb fb') (fun e => (sm_rowsP (fbp_good (e ▸ fb)) (by omega)).ok) (by have := fbp_le fb; omega) ?_
        refine ⟨_, rfl, ?_⟩
        rw [if_neg (by decide)]
        have s1214 := s13.trans s14
        have S1 := (Th.same s1214).shw (K := K) (by omega)
        have S2 := (T5.same s1214).shw (K := K) (by omega)
        refine ⟨_, S1.dp, S1.sh, S1.nd, S1.dep, S1.len, _, S2.dp, S2.sh, S2.nd, S2.dep, S2.len, ?_⟩
        rw [if_pos rfl]
        refine kb _ ?_
        walk_at "rd"
        exact ⟨kp12.then s1214, as4', as5', rs4', T4.same s1214, by omega, rs5', T5.same s1214, by omega⟩
      rintro σ H7 ⟨v6, v7, p4, p5, as4, as5, rs4, rs5, rfl, kp7, T4, l4, T5, l5⟩
      refine k0 _ _ ?_
      clear k0
      have G7 := G5.kp B5 kp7
      have s4 := sm_told T4.sm (by omega)
      have sg := sm_told G7.sm (by omega)
      clear G5 P5 kp7 B5 kp6
      refine seqI fun K1 k1 => ?_
      walk_at "rd"
      refine ⟨_, T4.h, fun hd nhd => k1 _ _ ?_⟩
      clear k1
      have Th := T4.again nhd
      have s12 := same_new (o := .lst (as4.map V.ref)) nhd
      generalize upd H7 hd (.lst (as4.map V.ref)) = H8 at Th s12
      have T4 := T4.same s12
      have T5 := T5.same s12
      have G8 := G7.same s12
      clear s12 G7 nhd
      refine seqI fun K1 k1 => ?_
      refine ifI fun A2 B2 ka kb => ?_
      walk_at "rd"
      refine ⟨_, T4.h, fun t1 nt1 => ⟨t1, as4, rs4, 33 + m, rfl, ⟨.inr upd_same, T4.la, (T4.same (same_new nt1)).row⟩, T4.sm, by omega, by omega, fun k q1 H9 fb s9 nq1 hq1 => ?_⟩⟩
      have s89 := (same_new (o := .tup (as4.map V.ref)) nt1).trans s9
      refine ⟨p4, as4, rs4, 33 + m, rfl, T4.same s89, by omega, by omega, fun k' q2 H10 fb' s10 nq2 hq2 => ?_⟩
      refine ne_ans (s10 _ _ hq1) hq2 (fb_uniq fb fb') (fun _ => s4.ok) (by have := fb_le fb; omega) ?_
      refine ⟨_, rfl, ?_⟩
      rw [if_neg (by decide)]
      have s810 := s89.trans s10
      clear s89 s9 s10 nq1 hq1 nq2 hq2 fb fb' nt1
      refine ⟨hd, as4, rs4, 33 + m, rfl, (Th.same s810).rows, T4.sm, by omega, by omega, fun k q1 H11 fb s11 nq1 hq1 => ?_⟩
      refine ⟨p4, as4, rs4, 33 + m, rfl, (T4.same s810).same s11, by omega, by omega, fun k' q2 H12 fb' s12 nq2 hq2 => ?_⟩
      refine ne_ans (s12 _ _ hq1) hq2 (fb_uniq fb fb') (fun _ => s4.ok) (by have := fb_le fb; omega) ?_
      refine ⟨_, rfl, ?_⟩
      rw [if_neg (by decide)]
      have s812 := (s810.trans s11).trans s12
      have S1 := (Th.same s812).shw (K := K) (by omega)
      have S2 := (T4.same s812).shw (K := K) (by omega)
      refine ⟨_, S1.dp, S1.sh, S1.nd, S1.dep, S1.len, _, S2.dp, S2.sh, S2.nd, S2.dep, S2.len, ?_⟩
      rw [if_pos rfl]
      refine kb _ (k1 _ _ ?_)
      have T5 := T5.same s812
      have G12 := G8.same s812
      clear ka kb k1 s812 s810 s11 s12 nq1 hq1 nq2 hq2 fb fb' T4 Th G8 S1 S2
      refine seqI fun K1 k1 => ?_
      refine ifI fun A2 B2 ka kb => ?_
      walk_at "rd"
      refine ⟨pg, as0, rs0, 33, rfl, G12.rows, G12.sm, by omega, by omega, fun k q1 H13 fb s13 nq1 hq1 => ?_⟩
      obtain rfl := fb_uniq fb fb0
      have G13 := G12.same s13
      refine ⟨_, G13.h, fun t1 nt1 => ?_⟩
      have S1 := shw_told (K := K) (upd_same (H := H13) (a := t1) (o := .tup (as0.map V.ref))) G13.la (G13.same (same_new nt1)).row G13.sm (by omega)
      refine ⟨_, S1.dp, S1.sh, S1.nd, S1.dep, S1.len, by decide, fun q2 nq2 => ?_⟩
      have sA := (same_new (o := .tup (as0.map V.ref)) nt1).trans (same_new (o := .lst [.str "good", .str (toldB rs0).shown, .bl true]) nq2)
      refine ne_ans (k := 0) (k' := 0) (sA _ _ hq1) upd_same rfl (fun _ => sg.ok) (by omega) ?_
      refine ⟨_, rfl, ?_⟩
      rw [if_neg (by decide)]
      have T14 := (T5.same s13).same sA
      have G14 := G13.same sA
      generalize upd (upd H13 t1 (.tup (as0.map V.ref))) q2 (.lst [.str "good", .str (toldB rs0).shown, .bl true]) = H14 at T14 G14
      clear sA S1 nq2 nt1 hq1 nq1 s13 fb G13 T5 G12
      refine ⟨_, T14.h, fun t1 nt1 => ⟨t1, as5, rs5, 33 + m, rfl, ⟨.inr upd_same, T14.la, (T14.same (same_new nt1)).row⟩, fun r hr => (T14.sm r hr).1, by omega, by omega, by omega, fun k q1 H15 fb s15 nq1 hq1 => ?_⟩⟩
      have s145 := (same_new (o := .tup (as5.map V.ref)) nt1).trans s15
      refine ⟨p5, as5, rs5, 33 + m, rfl, T14.same s145, by omega, by omega, by omega, fun k' q2 H16 fb' s16 nq2 hq2 => ?_⟩
      refine ne_ans (s16 _ _ hq1) hq2 (fbp_uniq fb fb') (fun e => (sm_rowsP (fbp_good (e ▸ fb)) (by omega)).ok) (by have := fbp_le fb; omega) ?_
      refine ⟨_, rfl, ?_⟩
      rw [if_neg (by decide)]
      refine kb _ (k1 _ _ ?_)
      have G16 := (G14.same s145).same s16
      clear ka kb k1 s145 s15 s16 nq1 hq1 nq2 hq2 fb fb' T14 G14 nt1
      have ok0 := fb_ok fb0 (by omega) (by omega)
      obtain ⟨PP, F0⟩ := fb_forest fb0
      refine seqI fun K1 k1 => ?_
      walk_at "rd"
      refine ⟨pg, as0, rs0, rfl, G16.rows, by omega, by omega, fun k d H17 k0 fb => absurd (fb_uniq fb fb0) k0, fun _ x A H17 s17 fr17 T0 => k1 _ _ ?_⟩
      clear k1
      have T0 : TreeAt K H17 x A (trB rs0) := T0
      have G17 := G16.same s17
      clear G16 s17 fr17
      refine seqI fun K1 k1 => ?_
      refine forI fun R0 hR => ?_
      walk_at "rd"
      refine ⟨by decide, by decide, by omega, by omega, hR _ _ ?_⟩
      clear hR
      rw [show ((n : Int) + 1 - 1).toNat = n by omega]
      refine for_range (lo := 1) (n := n) (fun i σ H' => ∃ v9 : Option V, σ = [some (.ref a), some (.ref b), some (.int (n : Nat)), some (.ref pg), some (.ref p4), some (.ref p5), v6, some (.ref hd), some (.ref x), v9, none] ∧ Same H17 H') ⟨_, rfl, Same.refl _⟩ ?_ ?_
      · rintro i σ H18 hi ⟨v9, rfl, s18⟩
        have e1 : (1 : Int) + (i : Nat) = ((i + 1 : Nat) : Int) := by omega
        have T1 := T0.same s18
        obtain ⟨dx, hx⟩ := T1.ins
        rw [e1]
        refine ifI fun A2 B2 ka kb => ?_
        walk_at "rd"
        have hin : i + 1 ≤ (trB rs0).n := by rw [trB_n]; omega
        refine ⟨_, _, hx, rfl, x, A, trB rs0, PP, _, rfl, T1, ok0, F0, .inl ⟨i + 1, rfl, hin, fun pp H19 s19 npp hpp => ?_⟩⟩
        obtain ⟨po1, po2⟩ := parts_ok ok0 F0 hin
        have S1 := shw_ints (K := K) hpp po1 po2
        refine ⟨_, S1.dp, S1.sh, S1.nd, S1.dep, S1.len, pg, as0, rs0, 33, i, rfl, (G17.same s18).same s19, by omega, by omega, fb0, fun P' q1 H20 nd mem ch s20 nq1 hq1 => ⟨q1, rfl, _, hq1, fun t1 nt1 => ?_⟩⟩
        have eP : partsOf PP (i + 1) = P' := by
          refine chain_uniq (parts_chain F0 hin) ?_
          have er : rs0[i]? = some rs0[i] := List.getElem?_eq_getElem (by omega)
          rw [show (trB rs0).fir.getD (i + 1) 0 = natD rs0[i].2.2.2 from cons_getD (by rw [List.getElem?_map, er]; rfl)]
          rw [(holB_get er).2.2] at ch
          exact ch
        rw [← eP]
        have S2 := shw_ints (K := K) (upd_same (H := H20) (a := t1) (o := .tup (ni (partsOf PP (i + 1))))) po1 po2
        refine ⟨_, S2.dp, S2.sh, S2.nd, S2.dep, S2.len, ?_⟩
        rw [if_pos rfl]
        refine kb _ ?_
        walk_at "rd"
        exact ((s18.trans s19).trans s20).trans (same_new nt1)
      rintro σ H18 ⟨v9, rfl, s18⟩
      refine k1 _ _ ?_
      clear k1
      have T1 := T0.same s18
      obtain ⟨dx, hx⟩ := T1.ins
      refine seqI fun K1 k1 => ?_
      refine ifI fun A2 B2 ka kb => ?_
      walk_at "rd"
      refine ⟨_, _, hx, rfl, x, A, trB rs0, rfl, T1, ok0, fun p1 H19 s19 np1 td => ?_⟩
      obtain ⟨ast, BT⟩ := told_rows all0 td
      have T2 := T1.same s19
      refine ⟨p1, ast, rs0, rfl, BT, by omega, by omega, fun k d H17 k0 fb => absurd (fb_uniq fb fb0) k0, fun _ y A' H20 s20 fr20 T3 => ?_⟩
      have T3 : TreeAt K H20 y A' (trB rs0) := T3
      have T4 := T2.same s20
      obtain ⟨dx4, hx4⟩ := T4.ins
      obtain ⟨dy, hy⟩ := T3.ins
      refine ⟨_, rfl, _, _, _, hx4, _, hy, x, y, A, A', trB rs0, trB rs0, rfl, T4, T3, ok0, ok0, fun H21 s21 => ⟨_, rfl, ?_⟩⟩
      rw [if_pos (decide_eq_true rfl)]
      refine ka _ ?_
      walk_at "rd"
      exact q _
    have B2b := B2
    refine ifI fun A2 B2 ka kb => ?_
    walk_at "rd"
    refine ⟨b, 6, rfl, B2b, by decide, by decide, fun c H3 kp3 => ⟨c, rfl, ?_⟩⟩
    cases c with
    | false =>
      rw [if_neg (by decide)]
      refine kb _ ?_
      walk_at "rd"
      rw [show (1 : Int) + (m : Nat) = ((m + 1 : Nat) : Int) by omega]
      exact go (m + 1) H3 (by omega) (by omega) kp3.bag
    | true =>
      rw [if_pos rfl]
      refine ka _ ?_
      walk_at "rd"
      refine ⟨b, 52, rfl, kp3.bag, by decide, by decide, fun m2 H4 w0 w1 kp4 => ⟨m2, rfl, ?_⟩⟩
      obtain ⟨m2, rfl⟩ := ni_nat w0
      rw [show (9 : Int) + (m2 : Nat) = ((m2 + 9 : Nat) : Int) by omega]
      exact go (m2 + 9) H4 (by omega) (by omega) kp4.bag
end
def d_f_Tree_MU_initU : He.DefD := ⟨("Tree", some "__init__"), "__init__", "Tree.__init__", defArgs s_Tree_MU_initU, defBody s_Tree_MU_initU, defScope s_Tree_MU_initU, [], []⟩
def d_f_Tree_M_check_thing : He.DefD := ⟨("Tree", some "check_thing"), "check_thing", "Tree.check_thing", defArgs s_Tree_M_check_thing, defBody s_Tree_M_check_thing, defScope s_Tree_M_check_thing, [], []⟩
def d_f_Tree_M_parts_of : He.DefD := ⟨("Tree", some "parts_of"), "parts_of", "Tree.parts_of", defArgs s_Tree_M_parts_of, defBody s_Tree_M_parts_of, defScope s_Tree_M_parts_of, [], []⟩
def d_f_Tree_MU_lenU : He.DefD := ⟨("Tree", some "__len__"), "__len__", "Tree.__len__", defArgs s_Tree_MU_lenU, defBody s_Tree_MU_lenU, defScope s_Tree_MU_lenU, [], []⟩
def d_f_Tree_M_told : He.DefD := ⟨("Tree", some "told"), "told", "Tree.told", defArgs s_Tree_M_told, defBody s_Tree_M_told, defScope s_Tree_M_told, [], []⟩
def d_f_Tree_MU_eqU : He.DefD := ⟨("Tree", some "__eq__"), "__eq__", "Tree.__eq__", defArgs s_Tree_MU_eqU, defBody s_Tree_MU_eqU, defScope s_Tree_MU_eqU, [], []⟩
def d_f_is_integer : He.DefD := ⟨("is_integer", none), "is_integer", "is_integer", defArgs s_is_integer, defBody s_is_integer, defScope s_is_integer, [], []⟩
def d_f_are_marks : He.DefD := ⟨("are_marks", none), "are_marks", "are_marks", defArgs s_are_marks, defBody s_are_marks, defScope s_are_marks, [], []⟩
def d_f_has_no_place : He.DefD := ⟨("has_no_place", none), "has_no_place", "has_no_place", defArgs s_has_no_place, defBody s_has_no_place, defScope s_has_no_place, [], []⟩
def d_f_comes_back : He.DefD := ⟨("comes_back", none), "comes_back", "comes_back", defArgs s_comes_back, defBody s_comes_back, defScope s_comes_back, [], []⟩
def d_f_is_row_of_parts : He.DefD := ⟨("is_row_of_parts", none), "is_row_of_parts", "is_row_of_parts", defArgs s_is_row_of_parts, defBody s_is_row_of_parts, defScope s_is_row_of_parts, [], []⟩
def d_f_is_row : He.DefD := ⟨("is_row", none), "is_row", "is_row", defArgs s_is_row, defBody s_is_row, defScope s_is_row, [], []⟩
def d_f_check_rows : He.DefD := ⟨("check_rows", none), "check_rows", "check_rows", defArgs s_check_rows, defBody s_check_rows, defScope s_check_rows, [], []⟩
def d_f__law_bag : He.DefD := ⟨("_law_bag", none), "_law_bag", "_law_bag", defArgs s__law_bag, defBody s__law_bag, defScope s__law_bag, [], []⟩
def d_f__law_pick : He.DefD := ⟨("_law_pick", none), "_law_pick", "_law_pick", defArgs s__law_pick, defBody s__law_pick, defScope s__law_pick, [], []⟩
def d_f__law_choice : He.DefD := ⟨("_law_choice", none), "_law_choice", "_law_choice", defArgs s__law_choice, defBody s__law_choice, defScope s__law_choice, [], []⟩
def d_f__law_one_in : He.DefD := ⟨("_law_one_in", none), "_law_one_in", "_law_one_in", defArgs s__law_one_in, defBody s__law_one_in, defScope s__law_one_in, [], []⟩
def d_f__law_shuffled : He.DefD := ⟨("_law_shuffled", none), "_law_shuffled", "_law_shuffled", defArgs s__law_shuffled, defBody s__law_shuffled, defScope s__law_shuffled, [], []⟩
def d_f__law_integer : He.DefD := ⟨("_law_integer", none), "_law_integer", "_law_integer", defArgs s__law_integer, defBody s__law_integer, defScope s__law_integer, [], []⟩
def d_f__law_holders : He.DefD := ⟨("_law_holders", none), "_law_holders", "_law_holders", defArgs s__law_holders, defBody s__law_holders, defScope s__law_holders, [], []⟩
def d_f__law_drawn_told : He.DefD := ⟨("_law_drawn_told", none), "_law_drawn_told", "_law_drawn_told", defArgs s__law_drawn_told, defBody s__law_drawn_told, defScope s__law_drawn_told, [], []⟩
def d_f__law_bad_row : He.DefD := ⟨("_law_bad_row", none), "_law_bad_row", "_law_bad_row", defArgs s__law_bad_row, defBody s__law_bad_row, defScope s__law_bad_row, [], []⟩
def d_f__law_right_among : He.DefD := ⟨("_law_right_among", none), "_law_right_among", "_law_right_among", defArgs s__law_right_among, defBody s__law_right_among, defScope s__law_right_among, [], []⟩
def d_f__law_first_bad : He.DefD := ⟨("_law_first_bad", none), "_law_first_bad", "_law_first_bad", defArgs s__law_first_bad, defBody s__law_first_bad, defScope s__law_first_bad, [], []⟩
def d_f__law_odd : He.DefD := ⟨("_law_odd", none), "_law_odd", "_law_odd", defArgs s__law_odd, defBody s__law_odd, defScope s__law_odd, [], []⟩
def d_f__law_odd_marks : He.DefD := ⟨("_law_odd_marks", none), "_law_odd_marks", "_law_odd_marks", defArgs s__law_odd_marks, defBody s__law_odd_marks, defScope s__law_odd_marks, [], []⟩
def d_f__law_ringed : He.DefD := ⟨("_law_ringed", none), "_law_ringed", "_law_ringed", defArgs s__law_ringed, defBody s__law_ringed, defScope s__law_ringed, [], []⟩
def d_f__law_exchanged : He.DefD := ⟨("_law_exchanged", none), "_law_exchanged", "_law_exchanged", defArgs s__law_exchanged, defBody s__law_exchanged, defScope s__law_exchanged, [], []⟩
def d_f__law_changed : He.DefD := ⟨("_law_changed", none), "_law_changed", "_law_changed", defArgs s__law_changed, defBody s__law_changed, defScope s__law_changed, [], []⟩
def d_f__law_judged : He.DefD := ⟨("_law_judged", none), "_law_judged", "_law_judged", defArgs s__law_judged, defBody s__law_judged, defScope s__law_judged, [], []⟩
def d_f__law_due : He.DefD := ⟨("_law_due", none), "_law_due", "_law_due", defArgs s__law_due, defBody s__law_due, defScope s__law_due, [], []⟩
def d_f__law_first_bad_pair : He.DefD := ⟨("_law_first_bad_pair", none), "_law_first_bad_pair", "_law_first_bad_pair", defArgs s__law_first_bad_pair, defBody s__law_first_bad_pair, defScope s__law_first_bad_pair, [], []⟩
def d_f__law_pairs_judged : He.DefD := ⟨("_law_pairs_judged", none), "_law_pairs_judged", "_law_pairs_judged", defArgs s__law_pairs_judged, defBody s__law_pairs_judged, defScope s__law_pairs_judged, [], []⟩
def d_f__law_pairs_due : He.DefD := ⟨("_law_pairs_due", none), "_law_pairs_due", "_law_pairs_due", defArgs s__law_pairs_due, defBody s__law_pairs_due, defScope s__law_pairs_due, [], []⟩
def d_f__law_pairs_changed : He.DefD := ⟨("_law_pairs_changed", none), "_law_pairs_changed", "_law_pairs_changed", defArgs s__law_pairs_changed, defBody s__law_pairs_changed, defScope s__law_pairs_changed, [], []⟩
def d_f__law_parts : He.DefD := ⟨("_law_parts", none), "_law_parts", "_law_parts", defArgs s__law_parts, defBody s__law_parts, defScope s__law_parts, [], []⟩
def d_f_law : He.DefD := ⟨("law", none), "law", "law", defArgs s_law, defBody s_law, defScope s_law, [], []⟩
def fn : List He.DefD := [d_f_Tree_MU_initU, d_f_Tree_M_check_thing, d_f_Tree_M_parts_of, d_f_Tree_MU_lenU, d_f_Tree_M_told, d_f_Tree_MU_eqU, d_f_is_integer, d_f_are_marks, d_f_has_no_place, d_f_comes_back, d_f_is_row_of_parts, d_f_is_row, d_f_check_rows, d_f__law_bag, d_f__law_pick, d_f__law_choice, d_f__law_one_in, d_f__law_shuffled, d_f__law_integer, d_f__law_holders, d_f__law_drawn_told, d_f__law_bad_row, d_f__law_right_among, d_f__law_first_bad, d_f__law_odd, d_f__law_odd_marks, d_f__law_ringed, d_f__law_exchanged, d_f__law_changed, d_f__law_judged, d_f__law_due, d_f__law_first_bad_pair, d_f__law_pairs_judged, d_f__law_pairs_due, d_f__law_pairs_changed, d_f__law_parts, d_f_law]
def d_BadTree : FxH.InD := ⟨"BadTree", "thing", "BadTree.__init__", inClass (top 4) 0⟩
theorem bd_BadTree : ∀ (fd : FuncData) (p1 p2 : Pos), fd.params = xA d_BadTree.f p1 p2 → fd.defaults = .none → ∀ (u1 u2 : Value), bindArgs fd ⟨[u1, u2], []⟩ = pure [(("self" : Str), u1), (d_BadTree.f, u2)] := fun fd p1 p2 e1 e2 u1 u2 => by
  obtain ⟨n1, n2, n3, n4, n5, n6, n7, n8, n9, n10, n11, n12, n13, n14, n15⟩ := fd
  dsimp only at e1 e2
  subst e1 e2
  rfl
def d_NoThing : FxH.InD := ⟨"NoThing", "thing", "NoThing.__init__", inClass (top 3) 0⟩
theorem bd_NoThing : ∀ (fd : FuncData) (p1 p2 : Pos), fd.params = xA d_NoThing.f p1 p2 → fd.defaults = .none → ∀ (u1 u2 : Value), bindArgs fd ⟨[u1, u2], []⟩ = pure [(("self" : Str), u1), (d_NoThing.f, u2)] := fun fd p1 p2 e1 e2 u1 u2 => by
  obtain ⟨n1, n2, n3, n4, n5, n6, n7, n8, n9, n10, n11, n12, n13, n14, n15⟩ := fd
  dsimp only at e1 e2
  subst e1 e2
  rfl
def fi : List FxH.InD := [d_BadTree, d_NoThing]
def fa : List FxH.Fct := [(He.Fa.free "all").ok,
  (He.Fa.free "bool").ok,
  (He.Fa.free "enumerate").ok,
  (He.Fa.free "int").ok,
  (He.Fa.free "isinstance").ok,
  (He.Fa.free "len").ok,
  (He.Fa.free "list").ok,
  (He.Fa.free "range").ok,
  (He.Fa.free "repr").ok,
  (He.Fa.free "sorted").ok,
  (He.Fa.free "tuple").ok,
  (He.Fa.free "super").ok,
  (He.Fa.int "MOST_MARKS" 32).ok,
  (He.Fa.int "MOST_THINGS" 60).ok,
  (He.Fa.glo "BadTree").ok,
  (fun K => FxH.excB K "BadTree"),
  (He.Fa.glo "FableError").ok,
  (He.Fa.glo "NoThing").ok,
  (fun K => FxH.excB K "NoThing"),
  (He.Fa.glo "Tree").ok,
  (He.Fa.cls "Tree").ok,
  (He.Fa.noat "Tree" "besides").ok,
  (He.Fa.noat "Tree" "firsts").ok,
  (He.Fa.noat "Tree" "holders").ok,
  (He.Fa.noat "Tree" "mark_rows").ok,
  (He.Fa.noat "Tree" "numbers_now").ok,
  (fun K => decide (PySem.W.exmOne K (.ref (He.ga K "BadTree")) (.ref (He.ga K "BadTree")) = some true)),
  (fun K => decide (PySem.W.kitOne K (.ref (He.ga K "BadTree")) (.ref (He.ga K "FableError")) = some true)),
  (fun K => decide (PySem.W.kitOne K (.ref (He.ga K "BadTree")) (.ref (He.ga K "NoThing")) = some false)),
  (fun K => insB K (He.ga K "Tree")),
  (He.Fa.mkr "Tree").ok,
  (He.Fa.meth "Tree" "check_thing").ok,
  (He.Fa.meth "Tree" "parts_of").ok,
  (He.Fa.meth "Tree" "__len__").ok,
  (He.Fa.meth "Tree" "told").ok,
  (He.Fa.meth "Tree" "__eq__").ok,
  (He.Fa.glo "is_integer").ok,
  (He.Fa.glo "are_marks").ok,
  (He.Fa.glo "has_no_place").ok,
  (He.Fa.glo "comes_back").ok,
  (He.Fa.glo "is_row_of_parts").ok,
  (He.Fa.glo "is_row").ok,
  (He.Fa.glo "check_rows").ok,
  (He.Fa.glo "_law_bag").ok,
  (He.Fa.glo "_law_pick").ok,
  (He.Fa.glo "_law_choice").ok,
  (He.Fa.glo "_law_one_in").ok,
  (He.Fa.glo "_law_shuffled").ok,
  (He.Fa.glo "_law_integer").ok,
  (He.Fa.glo "_law_holders").ok,
  (He.Fa.glo "_law_drawn_told").ok,
  (He.Fa.glo "_law_bad_row").ok,
  (He.Fa.glo "_law_right_among").ok,
  (He.Fa.glo "_law_first_bad").ok,
  (He.Fa.glo "_law_odd").ok,
  (He.Fa.glo "_law_odd_marks").ok,
  (He.Fa.glo "_law_ringed").ok,
  (He.Fa.glo "_law_exchanged").ok,
  (He.Fa.glo "_law_changed").ok,
  (He.Fa.glo "_law_judged").ok,
  (He.Fa.glo "_law_due").ok,
  (He.Fa.glo "_law_first_bad_pair").ok,
  (He.Fa.glo "_law_pairs_judged").ok,
  (He.Fa.glo "_law_pairs_due").ok,
  (He.Fa.glo "_law_pairs_changed").ok,
  (He.Fa.glo "_law_parts").ok,
  (He.Fa.glo "law").ok]
abbrev R : PySem.W.OpenRow := PySem.W.OpenLaw.row PySem.Challenge.rw_fablemill_k16_bad_trees
def file : Str := PySem.Challenge.pw_fablemill_k16_bad_trees.main.file
def fs : List FxH.StD := [⟨"Tree", "of", "Tree.of", s_Tree_M_of⟩]
abbrev hk : PySem.W.Hook := FxH.hookS 6 file fa fn fi fs
def ob (s : PySem.W.SharedT) : FxH.AlS := FxH.obsSG 6 file fa fn fi fs (HandSHeadRun.getT s)
theorem ob_eq (s : PySem.W.SharedT) : ob s = hk.obs s.abs := FxH.obsSG_eq (HandSHeadRun.getT_eq s)
def loose : List PySem.Str := (["_wall", "FableError", "NoThing", "BadTree", "is_integer", "MOST_THINGS", "MOST_MARKS", "are_marks", "has_no_place", "comes_back", "is_row_of_parts", "is_row"] : List PySem.Str) ++ (["check_rows", "Tree", "_law_bag", "_law_pick", "_law_choice", "_law_one_in", "_law_shuffled", "_law_integer", "_law_holders", "_law_drawn_told", "_law_bad_row", "_law_right_among"] : List PySem.Str) ++ (["_law_first_bad", "_law_odd", "_law_odd_marks", "_law_ringed", "_law_exchanged", "_law_changed", "_law_judged", "_law_due", "_law_first_bad_pair", "_law_pairs_judged", "_law_pairs_due", "_law_pairs_changed"] : List PySem.Str) ++ (["_law_parts"] : List PySem.Str)
theorem run (w : World) : HandSHeadRun.RunEq R (PySem.W.view R.prog [41]) hk ob 20000 loose w := by
  intro os
  kernel_rfl
theorem facts {w : World} {K : PySem.W.Frag} {h : Heap} {mg : Str → Option Value} {f : Addr} (X : K.In h) (G : h.Ns mainGlobals mg) (hfa : mg ("law" : Str) = some (.ref f)) (c0 : FxH.SaysS file fa fn fi fs K) :
    ∃ fd : FuncData, (∀ (s : Shared) (v : Value), BindsTo s fd ⟨[v], []⟩ [("_law_script", v)]) ∧ ∀ base : Heap, K.In base → base.Ns mainGlobals mg → FnG PySem.Challenge.pw_fablemill_k16_bad_trees w K mg base CX0 7 f fd ["_law_script"] (spLaw K) := by
  have c := c0.x
  have T : Tx PySem.Challenge.pw_fablemill_k16_bad_trees K mg := {
    b_all := He.free_ok X G (c.fact 0),
    b_bool := He.free_ok X G (c.fact 1),
    b_enumerate := He.free_ok X G (c.fact 2),
    b_int := He.free_ok X G (c.fact 3),
    b_isinstance := He.free_ok X G (c.fact 4),
    b_len := He.free_ok X G (c.fact 5),
    b_list := He.free_ok X G (c.fact 6),
    b_range := He.free_ok X G (c.fact 7),
    b_repr := He.free_ok X G (c.fact 8),
    b_sorted := He.free_ok X G (c.fact 9),
    b_tuple := He.free_ok X G (c.fact 10),
    b_super := He.free_ok X G (c.fact 11),
    c_MOST_MARKS := cst_int (He.int_ok X G (c.fact 12)),
    c_MOST_THINGS := cst_int (He.int_ok X G (c.fact 13)),
    g_BadTree := He.glo_ok X G (c.fact 14),
    x_BadTree := FxH.InD.xc (P := PySem.Challenge.pw_fablemill_k16_bad_trees) (d := d_BadTree) (c.ini 0).1 (c.ini 0).2 (FOk.mk' (by decide +kernel) (by decide +kernel) (by decide +kernel) (by decide +kernel)) rfl rfl rfl rfl (bd_BadTree) (by decide +kernel),
    e_BadTree := FxH.excB_ok (c.fact 15),
    g_FableError := He.glo_ok X G (c.fact 16),
    g_NoThing := He.glo_ok X G (c.fact 17),
    x_NoThing := FxH.InD.xc (P := PySem.Challenge.pw_fablemill_k16_bad_trees) (d := d_NoThing) (c.ini 1).1 (c.ini 1).2 (FOk.mk' (by decide +kernel) (by decide +kernel) (by decide +kernel) (by decide +kernel)) rfl rfl rfl rfl (bd_NoThing) (by decide +kernel),
    e_NoThing := FxH.excB_ok (c.fact 18),
    g_Tree := He.glo_ok X G (c.fact 19),
    cl_Tree := He.cls_ok (c.fact 20),
    n_Tree_besides := He.noat_ok (c.fact 21),
    n_Tree_firsts := He.noat_ok (c.fact 22),
    n_Tree_holders := He.noat_ok (c.fact 23),
    n_Tree_mark_rows := He.noat_ok (c.fact 24),
    n_Tree_numbers_now := He.noat_ok (c.fact 25),
    m_TT := of_decide_eq_true (c.fact 26),
    k_TF := of_decide_eq_true (c.fact 27),
    k_TN := of_decide_eq_true (c.fact 28),
    i_Tree := c.fact 29 }
  obtain ⟨fd0, F0⟩ := c.def_ 0 (d := d_f_Tree_MU_initU) rfl
  obtain ⟨fd1, F1⟩ := c.def_ 1 (d := d_f_Tree_M_check_thing) rfl
  obtain ⟨fd2, F2⟩ := c.def_ 2 (d := d_f_Tree_M_parts_of) rfl
  obtain ⟨fd3, F3⟩ := c.def_ 3 (d := d_f_Tree_MU_lenU) rfl
  obtain ⟨fd4, F4⟩ := c.def_ 4 (d := d_f_Tree_M_told) rfl
  obtain ⟨fd5, F5⟩ := c.def_ 5 (d := d_f_Tree_MU_eqU) rfl
  obtain ⟨fd6, F6⟩ := c.def_ 6 (d := d_f_is_integer) rfl
  have S_is_integer : Src K mg "is_integer" s_is_integer := ⟨_, fd6, He.glo_ok X G (c.fact 36), F6⟩
  obtain ⟨fd7, F7⟩ := c.def_ 7 (d := d_f_are_marks) rfl
  have S_are_marks : Src K mg "are_marks" s_are_marks := ⟨_, fd7, He.glo_ok X G (c.fact 37), F7⟩
  obtain ⟨fd8, F8⟩ := c.def_ 8 (d := d_f_has_no_place) rfl
  have S_has_no_place : Src K mg "has_no_place" s_has_no_place := ⟨_, fd8, He.glo_ok X G (c.fact 38), F8⟩
  obtain ⟨fd9, F9⟩ := c.def_ 9 (d := d_f_comes_back) rfl
  have S_comes_back : Src K mg "comes_back" s_comes_back := ⟨_, fd9, He.glo_ok X G (c.fact 39), F9⟩
  obtain ⟨fd10, F10⟩ := c.def_ 10 (d := d_f_is_row_of_parts) rfl
  have S_is_row_of_parts : Src K mg "is_row_of_parts" s_is_row_of_parts := ⟨_, fd10, He.glo_ok X G (c.fact 40), F10⟩
  obtain ⟨fd11, F11⟩ := c.def_ 11 (d := d_f_is_row) rfl
  have S_is_row : Src K mg "is_row" s_is_row := ⟨_, fd11, He.glo_ok X G (c.fact 41), F11⟩
  obtain ⟨fd12, F12⟩ := c.def_ 12 (d := d_f_check_rows) rfl
  have S_check_rows : Src K mg "check_rows" s_check_rows := ⟨_, fd12, He.glo_ok X G (c.fact 42), F12⟩
  obtain ⟨fd13, F13⟩ := c.def_ 13 (d := d_f__law_bag) rfl
  have S__law_bag : Src K mg "_law_bag" s__law_bag := ⟨_, fd13, He.glo_ok X G (c.fact 43), F13⟩
  obtain ⟨fd14, F14⟩ := c.def_ 14 (d := d_f__law_pick) rfl
  have S__law_pick : Src K mg "_law_pick" s__law_pick := ⟨_, fd14, He.glo_ok X G (c.fact 44), F14⟩
  obtain ⟨fd15, F15⟩ := c.def_ 15 (d := d_f__law_choice) rfl
  have S__law_choice : Src K mg "_law_choice" s__law_choice := ⟨_, fd15, He.glo_ok X G (c.fact 45), F15⟩
  obtain ⟨fd16, F16⟩ := c.def_ 16 (d := d_f__law_one_in) rfl
  have S__law_one_in : Src K mg "_law_one_in" s__law_one_in := ⟨_, fd16, He.glo_ok X G (c.fact 46), F16⟩
  obtain ⟨fd17, F17⟩ := c.def_ 17 (d := d_f__law_shuffled) rfl
  have S__law_shuffled : Src K mg "_law_shuffled" s__law_shuffled := ⟨_, fd17, He.glo_ok X G (c.fact 47), F17⟩
  obtain ⟨fd18, F18⟩ := c.def_ 18 (d := d_f__law_integer) rfl
  have S__law_integer : Src K mg "_law_integer" s__law_integer := ⟨_, fd18, He.glo_ok X G (c.fact 48), F18⟩
  obtain ⟨fd19, F19⟩ := c.def_ 19 (d := d_f__law_holders) rfl
  have S__law_holders : Src K mg "_law_holders" s__law_holders := ⟨_, fd19, He.glo_ok X G (c.fact 49), F19⟩
  obtain ⟨fd20, F20⟩ := c.def_ 20 (d := d_f__law_drawn_told) rfl
  have S__law_drawn_told : Src K mg "_law_drawn_told" s__law_drawn_told := ⟨_, fd20, He.glo_ok X G (c.fact 50), F20⟩
  obtain ⟨fd21, F21⟩ := c.def_ 21 (d := d_f__law_bad_row) rfl
  have S__law_bad_row : Src K mg "_law_bad_row" s__law_bad_row := ⟨_, fd21, He.glo_ok X G (c.fact 51), F21⟩
  obtain ⟨fd22, F22⟩ := c.def_ 22 (d := d_f__law_right_among) rfl
  have S__law_right_among : Src K mg "_law_right_among" s__law_right_among := ⟨_, fd22, He.glo_ok X G (c.fact 52), F22⟩
  obtain ⟨fd23, F23⟩ := c.def_ 23 (d := d_f__law_first_bad) rfl
  have S__law_first_bad : Src K mg "_law_first_bad" s__law_first_bad := ⟨_, fd23, He.glo_ok X G (c.fact 53), F23⟩
  obtain ⟨fd24, F24⟩ := c.def_ 24 (d := d_f__law_odd) rfl
  have S__law_odd : Src K mg "_law_odd" s__law_odd := ⟨_, fd24, He.glo_ok X G (c.fact 54), F24⟩
  obtain ⟨fd25, F25⟩ := c.def_ 25 (d := d_f__law_odd_marks) rfl
  have S__law_odd_marks : Src K mg "_law_odd_marks" s__law_odd_marks := ⟨_, fd25, He.glo_ok X G (c.fact 55), F25⟩
  obtain ⟨fd26, F26⟩ := c.def_ 26 (d := d_f__law_ringed) rfl
  have S__law_ringed : Src K mg "_law_ringed" s__law_ringed := ⟨_, fd26, He.glo_ok X G (c.fact 56), F26⟩
  obtain ⟨fd27, F27⟩ := c.def_ 27 (d := d_f__law_exchanged) rfl
  have S__law_exchanged : Src K mg "_law_exchanged" s__law_exchanged := ⟨_, fd27, He.glo_ok X G (c.fact 57), F27⟩
  obtain ⟨fd28, F28⟩ := c.def_ 28 (d := d_f__law_changed) rfl
  have S__law_changed : Src K mg "_law_changed" s__law_changed := ⟨_, fd28, He.glo_ok X G (c.fact 58), F28⟩
  obtain ⟨fd29, F29⟩ := c.def_ 29 (d := d_f__law_judged) rfl
  have S__law_judged : Src K mg "_law_judged" s__law_judged := ⟨_, fd29, He.glo_ok X G (c.fact 59), F29⟩
  obtain ⟨fd30, F30⟩ := c.def_ 30 (d := d_f__law_due) rfl
  have S__law_due : Src K mg "_law_due" s__law_due := ⟨_, fd30, He.glo_ok X G (c.fact 60), F30⟩
  obtain ⟨fd31, F31⟩ := c.def_ 31 (d := d_f__law_first_bad_pair) rfl
  have S__law_first_bad_pair : Src K mg "_law_first_bad_pair" s__law_first_bad_pair := ⟨_, fd31, He.glo_ok X G (c.fact 61), F31⟩
  obtain ⟨fd32, F32⟩ := c.def_ 32 (d := d_f__law_pairs_judged) rfl
  have S__law_pairs_judged : Src K mg "_law_pairs_judged" s__law_pairs_judged := ⟨_, fd32, He.glo_ok X G (c.fact 62), F32⟩
  obtain ⟨fd33, F33⟩ := c.def_ 33 (d := d_f__law_pairs_due) rfl
  have S__law_pairs_due : Src K mg "_law_pairs_due" s__law_pairs_due := ⟨_, fd33, He.glo_ok X G (c.fact 63), F33⟩
  obtain ⟨fd34, F34⟩ := c.def_ 34 (d := d_f__law_pairs_changed) rfl
  have S__law_pairs_changed : Src K mg "_law_pairs_changed" s__law_pairs_changed := ⟨_, fd34, He.glo_ok X G (c.fact 64), F34⟩
  obtain ⟨fd35, F35⟩ := c.def_ 35 (d := d_f__law_parts) rfl
  have S__law_parts : Src K mg "_law_parts" s__law_parts := ⟨_, fd35, He.glo_ok X G (c.fact 65), F35⟩
  obtain ⟨fd, F⟩ := c.def_ 36 (d := d_f_law) rfl
  have e := hfa.symm.trans (He.glo_ok X G (c.fact 66 (f := (He.Fa.glo "law").ok) rfl))
  cases e
  have b := FunD.bindsA (ps := ["_law_script"]) F fun _ _ _ _ _ _ us hl => match us, hl with | [_], _ => rfl
  refine ⟨fd, fun s v => b s [v] rfl, fun base hK hG => ?_⟩
  obtain ⟨se0, sk0⟩ := c0.st 0
  obtain ⟨sfd0, SF0⟩ := FxH.StD.funD se0 sk0
  obtain ⟨SM0, SR0⟩ := FxH.StD.sta sk0
  have C_is_integer : Cal PySem.Challenge.pw_fablemill_k16_bad_trees w K mg base CX0 1 "is_integer" ["thing", "low", "high"] spIsI := ok_is_integer S_is_integer T 
  have C_comes_back : Cal PySem.Challenge.pw_fablemill_k16_bad_trees w K mg base CX0 1 "comes_back" ["holders", "thing"] spComesG := ok_comes_back S_comes_back T 
  have C_Tree_MU_initU : CalI PySem.Challenge.pw_fablemill_k16_bad_trees w K mg base (L2.CX PySem.Challenge.pw_fablemill_k16_bad_trees w) 3 (He.ga K "Tree") ["self", "rows"] (spTreeG K) := ok_Tree_MU_initU F0 (He.mkr_ok (c.fact 30)) T C_is_integer C_comes_back
  have C_Tree_M_check_thing : CalM PySem.Challenge.pw_fablemill_k16_bad_trees w K mg base (L2.CX PySem.Challenge.pw_fablemill_k16_bad_trees w) 3 (He.ga K "Tree") "check_thing" ["self", "thing"] (spChk K) := ok_Tree_M_check_thing F1 (He.meth_ok (c.fact 31)) T C_is_integer
  have C_Tree_M_parts_of : CalM PySem.Challenge.pw_fablemill_k16_bad_trees w K mg base (L2.CX PySem.Challenge.pw_fablemill_k16_bad_trees w) 4 (He.ga K "Tree") "parts_of" ["self", "thing"] (spParts K) := ok_Tree_M_parts_of F2 (He.meth_ok (c.fact 32)) T C_Tree_M_check_thing
  have C_Tree_MU_lenU : CalM PySem.Challenge.pw_fablemill_k16_bad_trees w K mg base CX0 1 (He.ga K "Tree") "__len__" ["self"] (spLen K) := ok_Tree_MU_lenU F3 (He.meth_ok (c.fact 33)) T 
  have C_Tree_M_told : CalM PySem.Challenge.pw_fablemill_k16_bad_trees w K mg base CX0 1 (He.ga K "Tree") "told" ["self"] (spTold K) := ok_Tree_M_told F4 (He.meth_ok (c.fact 34)) T 
  have C_Tree_MU_eqU : CalM PySem.Challenge.pw_fablemill_k16_bad_trees w K mg base CX0 2 (He.ga K "Tree") "__eq__" ["self", "other"] (spEqT K) := ok_Tree_MU_eqU F5 (He.meth_ok (c.fact 35)) T C_Tree_M_told
  have C_are_marks : Cal PySem.Challenge.pw_fablemill_k16_bad_trees w K mg base CX0 2 "are_marks" ["thing", "most"] spAreMG := ok_are_marks S_are_marks T C_is_integer
  have C_has_no_place : Cal PySem.Challenge.pw_fablemill_k16_bad_trees w K mg base CX0 1 "has_no_place" ["holders", "thing"] spNoPlaceG := ok_has_no_place S_has_no_place T 
  have C_is_row_of_parts : Cal PySem.Challenge.pw_fablemill_k16_bad_trees w K mg base CX0 1 "is_row_of_parts" ["holders", "besides", "first", "thing"] spRowPG := ok_is_row_of_parts S_is_row_of_parts T 
  have C_is_row : Cal PySem.Challenge.pw_fablemill_k16_bad_trees w K mg base CX0 3 "is_row" ["row", "most", "many"] spIsRowG := ok_is_row S_is_row T C_are_marks C_is_integer
  have C_check_rows : Cal PySem.Challenge.pw_fablemill_k16_bad_trees w K mg base CX0 4 "check_rows" ["rows", "most"] spCheckG := ok_check_rows S_check_rows T C_is_row C_is_row_of_parts C_has_no_place
  have C__law_bag : Cal PySem.Challenge.pw_fablemill_k16_bad_trees w K mg base CX0 1 "_law_bag" ["_law_script"] (spBag K) := ok__law_bag S__law_bag T 
  have C__law_pick : Cal PySem.Challenge.pw_fablemill_k16_bad_trees w K mg base CX0 1 "_law_pick" ["_law_bag_here", "_law_many"] spPick := ok__law_pick S__law_pick T 
  have C__law_choice : Cal PySem.Challenge.pw_fablemill_k16_bad_trees w K mg base CX0 2 "_law_choice" ["_law_bag_here", "_law_things"] spChoiceL := ok__law_choice S__law_choice T C__law_pick
  have C__law_one_in : Cal PySem.Challenge.pw_fablemill_k16_bad_trees w K mg base CX0 2 "_law_one_in" ["_law_bag_here", "_law_many"] spOneIn := ok__law_one_in S__law_one_in T C__law_pick
  have C__law_shuffled : Cal PySem.Challenge.pw_fablemill_k16_bad_trees w K mg base CX0 2 "_law_shuffled" ["_law_bag_here", "_law_things"] spShuf := ok__law_shuffled S__law_shuffled T C__law_pick
  have C__law_integer : Cal PySem.Challenge.pw_fablemill_k16_bad_trees w K mg base CX0 1 "_law_integer" ["_law_thing"] spIntegerG := ok__law_integer S__law_integer T 
  have C__law_holders : Cal PySem.Challenge.pw_fablemill_k16_bad_trees w K mg base CX0 3 "_law_holders" ["_law_bag_here", "_law_many"] spHolders := ok__law_holders S__law_holders T C__law_shuffled C__law_one_in C__law_pick
  have C__law_drawn_told : Cal PySem.Challenge.pw_fablemill_k16_bad_trees w K mg base CX0 4 "_law_drawn_told" ["_law_bag_here", "_law_many", "_law_most"] spLDrawn := ok__law_drawn_told S__law_drawn_told T C__law_holders C__law_shuffled C__law_pick
  have C__law_bad_row : Cal PySem.Challenge.pw_fablemill_k16_bad_trees w K mg base CX0 2 "_law_bad_row" ["_law_row", "_law_many"] spLBadRow := ok__law_bad_row S__law_bad_row T C__law_integer
  have C__law_right_among : Cal PySem.Challenge.pw_fablemill_k16_bad_trees w K mg base CX0 1 "_law_right_among" ["_law_told", "_law_thing"] spLAmong := ok__law_right_among S__law_right_among T 
  have C__law_first_bad : Cal PySem.Challenge.pw_fablemill_k16_bad_trees w K mg base CX0 3 "_law_first_bad" ["_law_told"] spLFirst := ok__law_first_bad S__law_first_bad T C__law_bad_row C__law_right_among
  have C__law_odd : Cal PySem.Challenge.pw_fablemill_k16_bad_trees w K mg base CX0 3 "_law_odd" ["_law_bag_here", "_law_many"] spLOddG := ok__law_odd S__law_odd T C__law_pick C__law_choice
  have C__law_odd_marks : Cal PySem.Challenge.pw_fablemill_k16_bad_trees w K mg base CX0 3 "_law_odd_marks" ["_law_bag_here", "_law_marks"] spLOddM := ok__law_odd_marks S__law_odd_marks T C__law_pick C__law_choice C__law_one_in
  have C__law_ringed : Cal PySem.Challenge.pw_fablemill_k16_bad_trees w K mg base CX0 3 "_law_ringed" ["_law_bag_here", "_law_told"] spLRinged := ok__law_ringed S__law_ringed T C__law_choice C__law_pick
  have C__law_exchanged : Cal PySem.Challenge.pw_fablemill_k16_bad_trees w K mg base CX0 2 "_law_exchanged" ["_law_bag_here", "_law_told"] spLExch := ok__law_exchanged S__law_exchanged T C__law_pick
  have C__law_changed : Cal PySem.Challenge.pw_fablemill_k16_bad_trees w K mg base CX0 4 "_law_changed" ["_law_bag_here", "_law_told"] spLChanged := ok__law_changed S__law_changed T C__law_pick C__law_first_bad C__law_ringed C__law_exchanged C__law_odd C__law_odd_marks
  have C_Tree_M_of : CalS PySem.Challenge.pw_fablemill_k16_bad_trees w K mg base (L2.CX PySem.Challenge.pw_fablemill_k16_bad_trees w) 5 (He.ga K "Tree") "of" ["rows"] (spOfG K) := ok_Tree_M_of SF0 SM0 SR0 T C_check_rows C_Tree_MU_initU
  have C__law_judged : CalG PySem.Challenge.pw_fablemill_k16_bad_trees w K mg base CX0 6 "_law_judged" ["_law_told"] spLJudged := ok__law_judged S__law_judged T C_Tree_M_of C_Tree_M_told C_Tree_MU_lenU
  have C__law_due : CalG PySem.Challenge.pw_fablemill_k16_bad_trees w K mg base CX0 4 "_law_due" ["_law_told"] spLDue := ok__law_due S__law_due T C__law_first_bad
  have C__law_first_bad_pair : Cal PySem.Challenge.pw_fablemill_k16_bad_trees w K mg base CX0 2 "_law_first_bad_pair" ["_law_pairs"] spLFirstP := ok__law_first_bad_pair S__law_first_bad_pair T C__law_integer
  have C__law_pairs_judged : CalG PySem.Challenge.pw_fablemill_k16_bad_trees w K mg base CX0 5 "_law_pairs_judged" ["_law_pairs"] spLPJudged := ok__law_pairs_judged S__law_pairs_judged T C_Tree_MU_initU C_Tree_M_told C_Tree_MU_lenU
  have C__law_pairs_due : CalG PySem.Challenge.pw_fablemill_k16_bad_trees w K mg base CX0 3 "_law_pairs_due" ["_law_pairs"] spLPDue := ok__law_pairs_due S__law_pairs_due T C__law_first_bad_pair
  have C__law_pairs_changed : Cal PySem.Challenge.pw_fablemill_k16_bad_trees w K mg base CX0 4 "_law_pairs_changed" ["_law_bag_here", "_law_pairs"] spLPChanged := ok__law_pairs_changed S__law_pairs_changed T C__law_pick C__law_odd C__law_odd_marks
  have C__law_parts : Cal PySem.Challenge.pw_fablemill_k16_bad_trees w K mg base CX0 1 "_law_parts" ["_law_told", "_law_thing"] spLPartsG := ok__law_parts S__law_parts T 
  exact ok_law F T C__law_bag C__law_pick C__law_one_in C__law_drawn_told C__law_changed C__law_pairs_changed C__law_judged C__law_due C__law_pairs_judged C__law_pairs_due C_Tree_M_of C_Tree_M_parts_of C__law_parts C_Tree_M_told C_Tree_MU_eqU
end K16
open PySem PySem.W PySem.Calls PyProof.Rows
theorem PySem.Challenge.cw_fablemill_k16_bad_trees_holds : PySem.Challenge.rw_fablemill_k16_bad_trees.Holds := by
  w_on; o_law
  refine HandSHeadRun.head_any (r := OpenLaw.row PySem.Challenge.rw_fablemill_k16_bad_trees) (q := view (OpenLaw.row PySem.Challenge.rw_fablemill_k16_bad_trees).prog [41]) (H := K16.hk) (ob := K16.ob) (M := 20000) (loose := K16.loose) (d := HandSHeadRun.topDef (OpenLaw.row PySem.Challenge.rw_fablemill_k16_bad_trees).prog 41) (kwd := []) K16.ob_eq
    (by kernel_rfl) (fun s => by kernel_rfl) K16.run (by kernel_rfl) (by kernel_rfl) (by kernel_rfl) (by rfl) (by first | assumption | decide +kernel) (by decide +kernel) ⟨rfl, rfl, rfl, rfl, rfl, by decide +kernel⟩ ?hw ?hc
  case hw => w_witness2
  case hc =>
    refine Fx.walk_ofG (l := PySem.Challenge.rw_fablemill_k16_bad_trees) (n := 63) (k := 7) (x := "_law_script") rfl (by decide) (by kernel_rfl) ⟨rfl, by decide, by decide⟩ ?F
    intro w mg fa h Y G hmg0
    obtain ⟨K, KX, c⟩ := Y
    have hmg : mg ("law" : PySem.Str) = some (.ref fa) := by
      have e : (HandSHeadRun.topDef (OpenLaw.row PySem.Challenge.rw_fablemill_k16_bad_trees).prog 41).name = ("law" : PySem.Str) := by kernel_rfl
      rw [← e]
      exact hmg0
    obtain ⟨fd, hb, hF⟩ := K16.facts (w := w) KX G hmg c
    exact ⟨K, fd, (K16.spLaw K), KX, hb, fun H a ns hl hS => ⟨a, ns, rfl, hS, Nat.le_trans hl (by decide), fun _ => rfl⟩, hF⟩
