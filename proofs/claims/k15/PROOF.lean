import PyProof.Rows.All
import Wide.All
import OpenK.AllK
import Wide.FinOn
import KE.KStateDown
import KE.KExcSuper
import Lean
import HandS.ForMost
import HandS.ForExc
import HandS.ExcInit
import HandS.ExcSuper
import HandS.ExcField
import HandS.ExcIs
import HandS.IsInst
import HandS.Defaults
import HandS.Replace
import HandS.ReplaceLit
import HandS.ReplaceDef
import HandS.Head0
import HandS.Head1
import HandS.Head2
import HandS.HeadEnd
import HandS.HeadHook1
import HandS.HeadHook2
import HandS.SetFor
import HandS.SortInts
import HandS.Wide
import HandS.WideBits
import HandS.ReplaceList
import HandS.IterVal
import KE.SortData
import KE.DataCmp
import HandS.Walk
import KE.GoesMore
import HandS.More
import HandS.TupAny
import HandS.Ends
import PyProof.ReprRoads
import PyProof.CallFns
import HandS.TupLe
import HandS.StrMore
import PyProof.Rows.StrPadFill
import PyProof.Rows.StrPadWhole
import KE.KIsAll
import HandS.OwnEq
import HandS.HotCalls
import HandS.Codes
import KE.KOwnIter
import PyProof.InstEq
import HandS.OwnIter
import PyProof.Rows.SortShellAny
import HandS.Strs
import HandS.Conv
import HandS.Style
import HandS.Set
import HandS.SetBool
import HandS.SetKeys
import KE.KCallOwn
import HandS.Steps
import HandS.Text
import PyProof.EqKinds
import HandS.TryMany
import HandS.ClsMeth
import HandS.HeadNt
import HandS.SortOrd
import PySem.Challenge.RW_fablemill_k15_trees_moved
set_option Elab.async false
set_option linter.all false
set_option maxRecDepth 100000
set_option maxHeartbeats 4000000
/-! Own errors of the shape: class C(FableError): def __init__(self, f): super().__init__('..'); self.f = f -/
namespace Fx
open PySem PySem.W PySem.Calls PyProof.Rows PySem.HandSPX
/-- the text of such an __init__ -/
def xA (f : Str) (p1 p2 : Pos) : Arguments := { posonlyargs := [], args := [{ arg := "self", annotation := none, pos := p1 }, { arg := f, annotation := none, pos := p2 }], vararg := none, kwonlyargs := [], kw_defaults := [], kwarg := none, defaults := [] }
def xB (f m : Str) (q1 q2 q3 q4 q5 q6 q7 q8 q9 q10 : Pos) : List Stmt :=
  [.Expr (.Call (.Attribute (.Call (.Name "super" q1) [] [] q2) "__init__" q3) [.Constant (.str m) 0 q4] [] q5) q6,
   .Assign [.Attribute (.Name "self" q7) f q8] (.Name f q9) q10]
def xS (f : Str) : Scope := { kind := .function, names := [(PySem.Str.ofString "self", .local), (f, .local), (PySem.Str.ofString "__class__", .free), (PySem.Str.ofString "super", .globalImplicit)], isGenerator := false, isCoroutine := false, more := [] }
/-- a field's name that does not clash -/
structure FOk (f : Str) : Prop where
  ns : f ≠ "self"
  nc : f ≠ "__class__"
  nu : f ≠ "super"
  nd : (f == ("__debug__" : Str)) = false
theorem FOk.mk' {f : Str} (h1 : decide (f ≠ "self") = true) (h2 : decide (f ≠ "__class__") = true) (h3 : decide (f ≠ "super") = true) (h4 : (f == ("__debug__" : Str)) = false) : FOk f :=
  ⟨of_decide_eq_true h1, of_decide_eq_true h2, of_decide_eq_true h3, h4⟩
/-- what the written part says of the class at C, its name x, its field f -/
structure XC (K : Frag) (P : Program) (x f : Str) (C : Addr) : Prop where
  fo : FOk f
  cls : ∃ nm q N bs bm sn sub ab col dd k0 k1 k2 k3 k5, K.lookup C = some (excClassObj nm q C N bs bm true sn sub ab col dd k0 k1 k2 k3 k5 "ValueError.__new__") ∧ refsVE bm = true ∧ alongIn K "__init__" bm = some (some (.builtin "ValueError.__init__"))
  sa : findIn K (.ref C) "__setattr__" = some (some (.builtin "object.__setattr__"))
  ga : findIn K (.ref C) "__getattribute__" = some (some (.builtin "BaseException.__getattribute__"))
  gg : findIn K (.ref C) "__getattr__" = some none
  noF : findIn K (.ref C) f = some none
  kC : keepIn K (.ref C) = true
  exC : subIn K (.ref C) (.type "BaseException") = some true
  veC : subIn K (.ref C) (.type "ValueError") = some true
  tyC : typeIn K (.ref C) = some (.type "type")
  hdC : hasDictIn K C = true
  op : nsIn K cStatics "thirdparty.any" = some none
  init : ∃ (fI : Addr), findIn K (.ref C) "__init__" = some (some (.ref fI)) ∧ typeIn K (.ref fI) = some (.type "function") ∧
    ∃ (qual m : Str) (oc : Value) (od : Option Addr) (kV doc pm : Value) (an : Option Addr) (cda cc : Addr) (ct : Value) (osl : Array (Option Value)) (p1 p2 q1 q2 q3 q4 q5 q6 q7 q8 q9 q10 : Pos)
      (ccl : Value) (cdd : Option Addr) (vs : Array Value) (ccs : Array (Option Value)) (tf : Tok) (cl : Value) (cld : Option Addr) (csl : Array (Option Value)),
      K.lookup fI = some ⟨oc, od, .func (ksFn "__init__" qual (xA f p1 p2) (xB f m q1 q2 q3 q4 q5 q6 q7 q8 q9 q10) (xS f) .none kV doc pm an (.ref cda) ct cc), osl⟩ ∧ codeIn K (.ref cda) qual = true ∧
      K.lookup cda = some ⟨ccl, cdd, .fields vs, ccs⟩ ∧ vs[2]? = some (.str (P.main.file : Str) tf) ∧ K.lookup cc = some ⟨cl, cld, .cell (some (.ref C)), csl⟩ ∧ (q3.endLine == q5.line) = true
  bd : ∀ (fd : FuncData) (p1 p2 : Pos), fd.params = xA f p1 p2 → fd.defaults = .none → ∀ (u1 u2 : Value), bindArgs fd ⟨[u1, u2], []⟩ = pure [(("self" : Str), u1), (f, u2)]
  top : (P.main.scope.names.lookup ("super" : Str)).isSome = false
section
variable {f : Str} (F : FOk f)
include F
theorem look_self : (xS f).names.lookup ("self" : Str) = some .local := by simp [xS, List.lookup]
theorem look_f : (xS f).names.lookup f = some .local := by
  have h1 : (f == PySem.Str.ofString "self") = false := by simpa using F.ns
  simp [xS, List.lookup, h1]
theorem look_cls : (xS f).names.lookup ("__class__" : Str) = some .free := by
  have h1 : (("__class__" : Str) == f) = false := by simpa using (Ne.symm F.nc)
  have h2 : (("__class__" : Str) == PySem.Str.ofString "self") = false := by decide
  simp [xS, List.lookup, h1, h2]
theorem look_sup : (xS f).names.lookup ("super" : Str) = some .globalImplicit := by
  have h1 : (("super" : Str) == f) = false := by simpa using (Ne.symm F.nu)
  have h2 : (("super" : Str) == PySem.Str.ofString "self") = false := by decide
  have h3 : (("super" : Str) == PySem.Str.ofString "__class__") = false := by decide
  simp [xS, List.lookup, h1, h2, h3]
end
section
variable {prog : Program} {w : World} {A : Around} {E : Value → Shared → Prop} {h : Heap} {g : Array GenState} {d : Drawn} {t : Nat} {os : OsState}
variable {nm q : Str} {C N : Addr} {bs bm : List Value} {hdct : Bool} {sn : List Str} {sub : List Value} {ab : Bool} {col : Option Bool} {dd : Option Addr} {k0 k1 k2 k3 k5 : Option Value}
theorem boot_super : bootBuiltins ("super" : Str) = some (.type "super") := by first | boot_by_name | kernel_rfl
/-- super().__init__(..) called -/
theorem call_mw {u e t0 : Addr} {rest : List Value} {Q : Value → Shared → Prop}
    (hC : h.get? C = some (excClassObj nm q C N bs bm hdct sn sub ab col dd k0 k1 k2 k3 k5 "ValueError.__new__")) (he : h.get? e = some (excO C t0)) (hu : h.get? u = some (kxs_mw "ValueError.__init__" e)) (hrest : rest.length ≤ sizeLine)
    (hq : ∀ h' t1, (∀ b o, b ≠ e → h.get? b = some o → h'.get? b = some o) → h'.get? e = some (excO C t1) → Q .none ⟨h', g, d, t, os⟩) :
    wpAny (model prog w) A (call (.ref u) rest) Q E ⟨h, g, d, t, os⟩ := by
  refine wpAny_call (codeAny_of_tree ?_)
  show wpAny _ A.in1 (callAny (.ref u) ⟨rest, []⟩) _ _ _
  simp only [callAny]
  refine wpAny_bind (wpAny_load hu ?_)
  simp only [kxs_mw, show (Value.type "method-wrapper" == Value.type "method" || Value.type "method-wrapper" == Value.type "builtin_function_or_method" || Value.type "method-wrapper" == Value.type "method-wrapper") = true by decide, if_true]
  refine KFB.if_so (by decide) ?_
  refine wpAny_bind (ESX.check_bound F.excBase_ValueError hC he rfl ?_)
  refine wpAny_bind (wpAny_pure (wpAny_pure ?_))
  refine ⟨Code.quiet_builtin _ (by decide +kernel), codeAny_builtin F.excBase_ValueError.initEntry ?_⟩
  rw [Around.under_plainId F.excBase_ValueError.init.plain _]
  wp_walk
  refine hq _ h.objs.size (fun b o hb ho => ?_) ?_
  · rw [Heap.get?_update_other _ _ (Ne.symm hb)]
    exact Heap.get?_push_of_some _ ho
  · rw [Heap.get?_update_self _ (Heap.get?_push_of_some _ he) rfl]
    rfl
end
theorem he_sup {env : Env} {m : Str} {q1 q2 q3 q4 q5 : Pos} (hp : (q3.endLine == q5.line) = true) :
    eval (.Call (.Attribute (.Call (.Name "super" q1) [] [] q2) "__init__" q3) [.Constant (.str m) 0 q4] [] q5) env = (do
      let ov ← attributeBase (.Call (.Name "super" q1) [] [] q2) "__init__" env (eval (.Call (.Name "super" q1) [] [] q2) env)
      standAt q3.atName
      let (f, first) ← holding [ov] (getMethod ov "__init__" (do return (← importBound (.Call (.Name "super" q1) [] [] q2) env).getD true))
      callWith q5 f first (backTo q5 (starEach [.Constant (.str m) 0 q4] env)) []) := by
  rw [arm_eval_Call]
  unfold methodCall methodCallPos
  simp only [hp, Bool.or_true, if_true]
  rfl
/-- what __init__ leaves of a fresh exception at x -/
structure InitEnd (h h' : Heap) (x C dx t1 : Addr) (f : Str) (v : Value) : Prop where
  keep : ∀ b o, b ≠ x → h.get? b = some o → h'.get? b = some o
  obj : h'.get? x = some { cls := .ref C, dict := some dx, data := .fields #[.ref t1, .none, .none, .none, .bool false, .none] }
  dbig : h.objs.size ≤ dx
  dne : dx ≠ x
  ns : h'.Ns1 dx (fun y => if y = f then some v else none)
/-- a made exception -/
structure OwnMade (h h' : Heap) (e C d : Addr) (f : Str) (v : Value) : Prop where
  keep : ∀ b o, h.get? b = some o → h'.get? b = some o
  new : h.objs.size ≤ e
  obj : ∃ oe vs, h'.get? e = some oe ∧ oe.cls = .ref C ∧ oe.dict = some d ∧ oe.data = .fields vs ∧ vs[1]? = some .none
  dbig : h.objs.size ≤ d
  dne : d ≠ e
  ns : h'.Ns1 d (fun y => if y = f then some v else none)
section
variable {prog : Program} {w : World} {A : Around} {E : Value → Shared → Prop} {R : Result → Shared → Prop} {s : Shared} {K : Frag} {mg mb : Str → Option Value} {x0 f : Str} {C : Addr}
theorem one_size (v : Value) : [v].length ≤ sizeLine := by
  rw [sizeLine_eq]
  exact (by decide : 1 ≤ 16777216)
theorem fx_init (T : XC K prog x0 f C) {fI : Addr} (hfI : findIn K (.ref C) "__init__" = some (some (.ref fI))) {x t0 : Addr} {v : Value} (X : K.In s.heap) (G : s.heap.Ns mainGlobals mg) (hsu : mg "super" = none) (B : s.heap.Ns builtinsNs mb) (hsb : mb "super" = bootBuiltins "super")
    (hlim : s.heap.NoLimit) (hx : s.heap.get? x = some (excO C t0)) (hnx : K.lookup x = none) (hroom : A.depth < recursionLimit)
    (hq : ∀ h' tk dx t1, InitEnd s.heap h' x C dx t1 f v → R (.ok (.ret .none)) { s with heap := h', toks := tk }) :
    codeAny (model prog w) A (.call (.ref fI) ⟨[.ref x, v], []⟩) R s := by
  obtain ⟨fI', e1, htI, qual, m, oc, od, kV, doc, pm, an, cda, cc, ct, osl, p1, p2, q1, q2, q3, q4, q5, q6, q7, q8, q9, q10, ccl, cdd, vs, ccs, tf, cl, cld, csl, ho, hcd, hcode, hvs, hcell, hps⟩ := T.init
  rw [hfI] at e1
  cases e1
  obtain ⟨nm, q, N, bs, bm, sn, sub, ab, col, dd, k0, k1, k2, k3, k5, hC, hbm, hal⟩ := T.cls
  have hcl : clsIn K C = some { name := nm, bases := bs, mro := .ref C :: bm, ns := N, qualname := q, hasDict := true, slotNames := sn, subclasses := sub, abstract := ab, collection := col, hasDel := false } := by unfold clsIn; rw [hC] <;> rfl
  refine ks_codeAny_call_defAt (fd := ksFn "__init__" qual (xA f p1 p2) (xB f m q1 q2 q3 q4 q5 q6 q7 q8 q9 q10) (xS f) .none kV doc pm an (.ref cda) ct cc) (body := xB f m q1 q2 q3 q4 q5 q6 q7 q8 q9 q10) (binds := [("self", .ref x), (f, v)]) hroom (X _ _ ho) rfl hlim (codeRec_of X hcd) rfl
    (BindsTo.of_eq (T.bd _ p1 p2 rfl rfl _ _)) ?_ ?_ (fun h₁ hns k => ?_)
  · intro y hy
    simp only [xS, List.mem_cons, List.not_mem_nil, or_false] at hy
    rcases hy with rfl | rfl | rfl | rfl <;> simp
  · intro y hy
    simp only [List.mem_cons, List.not_mem_nil, or_false] at hy
    rcases hy with rfl | rfl
    · exact look_self T.fo
    · exact look_f T.fo
  · have X1 : K.In h₁ := X.keeps k
    have hx1 := k _ _ hx
    have hC1 := X1 _ _ hC
    refine ks_wpAt_execs_cons (ks_wpAt_Expr_any (ks_wpAt_MethodCall ?_ (he_sup hps)))
    refine ks_wpAt_super_base (look_sup T.fo) (look_cls T.fo) (by decide) rfl (X1 _ _ ho) rfl rfl rfl (X1 _ _ hcode) rfl hvs (by simp) T.top ?_
    refine ks_loadName_global rfl (look_sup T.fo) (loadGlobal_builtin (G.keeps k) hsu (B.keeps k) (hsb.trans boot_super) ⟨rfl, ?_⟩)
    refine wpAny_loadName_free rfl (look_cls T.fo) rfl ⟨_, X1 _ _ hcell, rfl⟩ ?_
    refine wpAny_loadName_local rfl (look_self T.fo) hns (v := .ref x) ?_ ?_
    · have h1 : (("self" : Str) == f) = false := by simpa using (Ne.symm T.fo.ns)
      simp [List.lookup, h1]
    refine ks_wpAny_isType_cls hC1 rfl ⟨rfl, ?_⟩
    have hsub : mroIn K C (.ref C) = some true := by
      unfold mroIn
      rw [hcl]
      simp
    refine ks_wpAny_call_super hC1 rfl hx1 rfl (fun c e => by cases e) (looks_mroIn X1 hsub) (fun h2 hso k2 => ?_)
    have X2 : K.In h2 := X1.keeps k2
    have hx2 := k2 _ _ hx1
    have hxC : x ≠ C := fun e => by
      rw [e, hC1] at hx1
      cases hx1
    have I2 : InstAt h2 x (excO C t0) C none := ⟨hx2, rfl, rfl, trivial⟩
    refine kxs_getMethod kxs_ValueError hso (looks_opaque X2 T.op) (l₀ := .ref C :: bm) ?_ (ESX.drop_own C bm) X2 hal (I2.type.andThen (looks_subIn X2 T.veC)) hxC (by decide) ?_
    · exact fun A Q E s k q => wpAny_bind ((looks_clsIn X2 hcl) A _ E s k (wpAny_pure q))
    have kp : ∀ b o, h2.get? b = some o → (h2.push (kxs_mw "ValueError.__init__" x)).get? b = some o := fun b o e => Heap.get?_push_of_some _ e
    have hu : (h2.push (kxs_mw "ValueError.__init__" x)).get? h2.objs.size = some (kxs_mw "ValueError.__init__" x) := Heap.get?_push_at rfl rfl
    refine kxs_callWith (i := "ValueError.__init__") (x := x) rfl (evalArgs_plain (spliced_cons (Constant_str (k := 0) (pos := q4) (spliced_nil ⟨hu, ?_⟩))))
    refine call_mw (kp _ _ (X2 _ _ hC)) (kp _ _ hx2) hu (one_size _) (fun h3 t1 k3 hx3 => ?_)
    have kk : ∀ b o, b ≠ x → h₁.get? b = some o → h3.get? b = some o := fun b o hb e => k3 b o hb (kp _ _ (k2 _ _ e))
    have X3 : K.In h3 := fun a o e => kk a o (fun z => by rw [z, hnx] at e; cases e) (X1 a o e)
    have nL : s.heap.objs.size ≠ x := Nat.ne_of_gt (Heap.lt_size hx)
    have hns3 : h3.Ns s.heap.objs.size (fun y => [(("self" : Str), Value.ref x), (f, v)].reverse.lookup y) := by
      obtain ⟨oL, es, ep, hL, r⟩ := hns
      exact ⟨oL, es, ep, kk _ _ nL hL, r⟩
    have hfs : (f == ("self" : Str)) = false := by simpa using T.fo.ns
    have hsf : (("self" : Str) == f) = false := by simpa using (Ne.symm T.fo.ns)
    show PySem.wpAt _ _ _ (execs _ _) _ _ _
    refine ks_wpAt_execs_cons (ks_wpAt_Assign_Attr (PySem.wpAt_of_wpAny ?_))
    refine wpAny_Name (wpAny_loadName_local rfl (look_f T.fo) hns3 (v := v) (by simp [List.lookup]) ?_) T.fo.nd
    refine wpAny_Name (wpAny_loadName_local rfl (look_self T.fo) hns3 (v := .ref x) (by simp [List.lookup, hsf]) ?_) (by decide)
    refine set_plain X3 (ox := excO C t1) (od := none) ⟨hx3, rfl, rfl, trivial⟩ T.sa ?_
    refine exc_osa X3 hx3 hcl (show refsVE (.ref C :: bm) = true from hbm) rfl T.noF (fun h4 tk4 dx k4 dn dne hx4 hn4 => ?_)
    show PySem.wpAt _ _ _ (execs _ _) _ _ _
    refine PySem.wpAt_of_wpAny (wpAny_execs_nil (hq h4 tk4 dx t1 ⟨fun b o hb e => k4 b o hb (kk b o hb (k b o e)), hx4, ?_, dne, hn4⟩))
    exact Nat.le_of_lt (Nat.lt_of_lt_of_le (show s.heap.objs.size < h3.objs.size from hns3.lt) dn)
theorem fx_made (T : XC K prog x0 f C) {v : Value} (X : K.In s.heap) (G : s.heap.Ns mainGlobals mg) (hsu : mg "super" = none) (B : s.heap.Ns builtinsNs mb) (hsb : mb "super" = bootBuiltins "super") (hlim : s.heap.NoLimit) (hroom : A.depth + 1 < recursionLimit)
    (hq : ∀ h' tk e d, OwnMade s.heap h' e C d f v → R (.ok (.ret (.ref e))) { s with heap := h', toks := tk }) :
    codeAny (model prog w) A (.call (.ref C) ⟨[v], []⟩) R s := by
  obtain ⟨fI, hfI, htI, _⟩ := T.init
  obtain ⟨nm, q, N, bs, bm, sn, sub, ab, col, dd, k0, k1, k2, k3, k5, hC, hbm, hal⟩ := T.cls
  obtain ⟨hp, g, dr, tk, os⟩ := s
  have k : ∀ b o, hp.get? b = some o → ((hp.push (kdv_tup [v])).push (excO C hp.objs.size)).get? b = some o := fun b o e => Heap.get?_push_of_some _ (Heap.get?_push_of_some _ e)
  have hget : ((hp.push (kdv_tup [v])).push (excO C hp.objs.size)).get? (hp.objs.size + 1) = some (excO C hp.objs.size) := by heap_get
  have hnx : K.lookup (hp.objs.size + 1) = none := by
    cases e : K.lookup (hp.objs.size + 1) with
    | none => rfl
    | some o =>
      have z : hp.get? (hp.objs.size + 1) = some o := X _ _ e
      exact absurd (Nat.lt_of_succ_lt (Heap.lt_size z)) (Nat.lt_irrefl _)
  refine call_own F.excBase_ValueError (fun X => refsVE_contains X bm hbm) (X _ _ hC) (looks_findIn X hfI) (fun self => bind_fn X self htI) (one_size v) ?_
  refine fx_init (s := ⟨(hp.push (kdv_tup [v])).push (excO C hp.objs.size), g, dr, tk, os⟩) T hfI (X.keeps k) (G.keeps k) hsu (B.keeps k) hsb (hlim.keeps k) hget hnx ?_ fun h' tk' dx t1 ⟨k', hx, dn, dne, hns⟩ => ?_
  · show A.depth + 1 < recursionLimit
    exact hroom
  · have old : ∀ b o, hp.get? b = some o → h'.get? b = some o := fun b o e => k' b o (Nat.ne_of_lt (Nat.lt_succ_of_lt (Heap.lt_size e))) (k b o e)
    have z : hp.objs.size + 1 + 1 ≤ dx := by
      first
        | (simpa only [Heap.size_push] using dn)
        | exact dn
        | (have q := dn; rw [Heap.size_push, Heap.size_push] at q; exact q)
    exact ⟨rfl, hq h' tk' (hp.objs.size + 1) dx ⟨old, Nat.le_succ _, ⟨_, _, hx, rfl, rfl, rfl, rfl⟩, Nat.le_trans (Nat.le_trans (Nat.le_succ _) (Nat.le_succ _)) z, dne, hns⟩⟩
end
end Fx
namespace Fx
open PySem PySem.Spec PyProof.Rows L2
theorem relO_fx {f : Str} {v : V} {v' : Value} (r : RelV v v') (y : Str) : RelO (List.lookup y [(f, v)]) (if y = f then some v' else none) := by
  by_cases hw : y = f
  · subst hw
    rw [if_pos rfl]
    have q : List.lookup y [(y, v)] = some v := by simp [List.lookup]
    rw [q]
    exact r
  · rw [if_neg hw]
    have qw : (y == f) = false := by simpa using hw
    have q2 : List.lookup y [(f, v)] = none := by simp [List.lookup, qw]
    rw [q2]
    trivial
section
variable {X : Cx} {C : Addr} {x0 f : Str}
/-- C(e) -/
def tMkFx (C : Addr) (f : Str) (ta : TA) : L2.St → Hp → XK → Prop := fun σ H Q => ta σ H fun vs H1 => ∃ v, vs = [v] ∧ ∀ d, H1 d = none → Q (.ref C) (some d) (upd H1 d (.xd [(f, v)]))
theorem pmk_fx {a : Expr} {ta : TA} {p pos : Pos} {k : Nat} (T : XC X.K X.prog x0 f C) (gC : X.mg x0 = some (.ref C)) (hsu : X.mg "super" = none) (hr : Room k X.A) (ha : PA X [a] ta) (hg : Gl X x0 := by rfl) (hdb : (x0 == ("__debug__" : Str)) = false := by decide)
    (he : starEach (a :: []) X.env = (false, eval a X.env) :: starEach [] X.env := by rfl) (hpl : (backTo pos (starEach [] X.env)).any (·.1) = false := by rfl) :
    PMk X (.Call (.Name x0 p) [a] [] pos) (tMkFx C f ta) := by
  intro pins s σ H Q I h
  refine wpAny_Call_Name_kw (ld_glob I hg gC ?_ hdb)
  refine PySem.W.callWith_K (h₀ := X.base) I.ok.mod.kin T.kC (thn (ha.run pos pins s σ H _ I h) fun us s1 hh => ?_) he hpl
  obtain ⟨vs, H1, I1, r1, v, ev, q1⟩ := hh
  subst ev
  refine ⟨I1.kIn, ?_⟩
  cases r1 with
  | cons rv rn =>
    rename_i v' us'
    cases rn
    show wpAny _ _ (call (.ref C) [v']) _ _ _
    have hlim := I1.nolimit
    obtain ⟨mb, hb1, hb2⟩ := I1.mod.blt
    have G := I1.mod.glob.keeps I1.bk
    have B := hb1.keeps I1.bk
    obtain ⟨hp, g, dr, tk, os⟩ := s1
    refine wpAny_call (fx_made T I1.kIn G hsu B (hb2 _ (by decide)) hlim (by have := hr.dp; omega) fun h' tk' e d M => ?_)
    show MkP X pins σ Q (.ref e) ⟨h', g, dr, tk', os⟩
    obtain ⟨oe, fv, hoe, hc, hd, hdat, h1⟩ := M.obj
    have hns := M.ns
    obtain ⟨G', g1, g2⟩ := restrict h' fun b => decide (b ≠ e)
    have gk : ∀ b, b ≠ e → G'.get? b = h'.get? b := fun b hb => g1 b (decide_eq_true hb)
    have ge : G'.get? e = none := g2 e (by simp)
    have old : ∀ b o, hp.get? b = some o → G'.get? b = some o := fun b o q => (gk b (Nat.ne_of_lt (Nat.lt_of_lt_of_le (Heap.lt_size q) M.new))).trans (M.keep b o q)
    have ob : ObjOk X.prog X.w (upd H1 d (.xd [(f, v)])) G' d (.xd [(f, v)]) :=
      ⟨_, hns.at (fun o q => (gk d M.dne).trans q), fun y => relO_fx rv y⟩
    have J : Inv X pins σ (upd H1 d (.xd [(f, v)])) ⟨G', g, dr, tk', os⟩ := I1.laid (t' := tk') old M.dbig ob
    refine ⟨e, oe, fv, ⟨G', g, dr, tk', os⟩, _, .ref C, some d, rfl, J, fun b o q => ?_, ge, hoe, ⟨hc, hd⟩, hdat, h1, ?_, rfl, I1.bare, raises_own T.exC T.tyC, q1 d (I1.hok.fresh M.dbig)⟩
    · by_cases hb : b = e
      · have q' : G'.get? b = some o := q
        rw [hb, ge] at q'; cases q'
      · exact (gk b hb).symm.trans q
    · rw [upd_ne (Ne.symm M.dne)]
      exact I1.hok.fresh M.new
/-- raise C(e) -/
def tRaiseFx (C : Addr) (f : Str) (W : WX) (ta : TA) : TS := fun _ σ H => tMkFx C f ta σ H fun cls d H' => W cls d σ H'
theorem ps_raiseFx {a : Expr} {ta : TA} {W : WX} {p pos pos2 : Pos} {k : Nat} (hc : X.calm = true) (T : XC X.K X.prog x0 f C) (gC : X.mg x0 = some (.ref C)) (hsu : X.mg "super" = none) (hr : Room k X.A) (tk : Takes X W) (ha : PA X [a] ta) (hg : Gl X x0 := by rfl) (hdb : (x0 == ("__debug__" : Str)) = false := by decide)
    (he : starEach (a :: []) X.env = (false, eval a X.env) :: starEach [] X.env := by rfl) (hpl : (backTo pos (starEach [] X.env)).any (·.1) = false := by rfl) :
    PS X (.Raise (some (.Call (.Name x0 p) [a] [] pos)) none pos2) (tRaiseFx C f W ta) := ps_raise hc tk (pmk_fx T gC hsu hr ha hg hdb he hpl)
/-- e.f, e the exception that the suite holds -/
theorem XC.xf (T : XC X.K X.prog x0 f C) : XfC X.K C := ⟨T.ga, T.gg, T.exC, T.hdC⟩
end
end Fx
namespace PySem.W
open PySem PySem.Spec PySem.Calls PyProof.Rows
section
variable {prog : Program} {w : World} {A : Around} {E : Value → Shared → Prop} {s : Shared} {K : Frag} {x D : Addr} {ox : Obj} {od : Option Obj}
theorem fx_findObj {C : Addr} {name : Str} {a g : Value} (hc : (clsIn K C).isSome = true) (ha : findIn K (.ref C) name = some (some a)) (hg : specialIn K a "__get__" = some (some g)) (ht : takesIn K a = some true) : findObj K C od name = some (.bind g a) := by
  obtain ⟨cd, hc⟩ := Option.isSome_iff_exists.mp hc
  unfold findObj
  rw [hc, Option.bind_some, ha, Option.bind_some]
  simp [hg, ht]
theorem fx_class {Q : Option Value → Shared → Prop} (hga : findIn K (.ref D) "__getattribute__" = some (some (.builtin "BaseException.__getattribute__"))) (hgt : findIn K (.ref D) "__getattr__" = some none) (hsub : subIn K (.ref D) (.type "BaseException") = some true)
    (hdct : hasDictIn K D = true) (ha : findIn K (.ref D) "__class__" = some (some (.builtin "object.__class__")))
    (hn : specialIn K (.builtin "object.__class__") "__get__" = some (some (.builtin "getset_descriptor.__get__"))) (htk : takesIn K (.builtin "object.__class__") = some true) (hm : mroIn K D (.type "object") = some true)
    (X : K.In s.heap) (I : InstAt s.heap x ox D od) (h : Q (some (.ref D)) { s with toks := s.toks + 1 }) : wpAny (model prog w) A (getAttr? (.ref x) "__class__") Q E s := by
  have hf : findObj K D od "__class__" = some (.bind (.builtin "getset_descriptor.__get__") (.builtin "object.__class__")) := fx_findObj (by obtain ⟨cd, hc, _⟩ := any_some hdct; rw [hc]; rfl) ha hn htk
  obtain ⟨hp, g, d, t, os⟩ := s
  have L0 := I.type (M := model prog w)
  have L1 := looks_findIn (M := model prog w) X hga
  have L2 := looks_findIn (M := model prog w) X hgt
  have L3 := looks_find (M := model prog w) X I hf
  have sub : Looks (model prog w) hp (isInstance (.ref x) (.type "BaseException")) true := L0.andThen (looks_subIn X hsub)
  have hx0 : (false && onTheHeap (Value.builtin "BaseException.__getattribute__")) = false := rfl
  have hx2 : (Value.builtin "BaseException.__getattribute__" == Value.builtin "object.__getattribute__") = false := by decide +kernel
  have hx1 : (onTheHeap (Value.ref D) && Value.builtin "BaseException.__getattribute__" == Value.builtin "object.__getattribute__") = false := by rw [hx2]; rfl
  unfold getAttr? getAttrBy? getAttrBy
  refine wpAny_bind (wpAny_mkText (wpAny_bind (wpAny_attempt (wpAny_holding (wpAny_bind (L0.at (wpAny_bind (L1.at ?_))))))))
  show wpAny _ _ (if (onTheHeap (Value.ref D) && Value.builtin "BaseException.__getattribute__" == Value.builtin "object.__getattribute__") = true then _ else _) _ _ _
  rw [hx1, if_neg Bool.false_ne_true]
  unfold getAttrByItsOwn hookBefore
  refine wpAny_bind ?_
  rw [if_pos (show onTheHeap (Value.ref D) = true from rfl)]
  refine L2.at ?_
  refine wpAny_bind (wpAny_attempt (wpAny_holding ?_))
  unfold callGetattribute
  rw [hx0, if_neg Bool.false_ne_true]
  unfold boundAndCalled
  rw [PySem.F.excAttr_ValueError.ga.bind (.ref x)]
  refine wpAny_bind (wpAny_pure ?_)
  show wpAny _ _ (call (.builtin "BaseException.__getattribute__") [.ref x, .str "__class__" t]) _ _ _
  refine wpAny_call (codeAny_call_builtin PySem.F.excAttr_ValueError.ga.plain PySem.F.entry_bexc_ga ?_)
  refine @check_slot (model prog w) _ _ ⟨hp, g, d, t + 1, os⟩ "BaseException.__getattribute__" "BaseException" "__getattribute__" (.ref x) [.str "__class__" t] [] _ (by decide +kernel) (by decide +kernel) sub (PySem.F.args_bexc_ga (.ref x) (.str "__class__" t)) ?_
  unfold Builtin.«object.__getattribute__»
  refine wpAny_bind (wpAny_of_eq (a := ((Value.ref x : Value), [Value.str "__class__" t])) (by first | rfl | (simp only [slotArgs]; rfl)) ?_)
  refine wpAny_bind (wpAny_pure (wpAny_bind (L0.at (wpAny_bind (L3.at ?_)))))
  show wpAny _ _ (holding [Value.builtin "object.__class__"] (call (.builtin "getset_descriptor.__get__") [.builtin "object.__class__", .ref x, .ref D]) >>= ret) _ _ _
  refine wpAny_bind (wpAny_holding (wpAny_call (class_get (s := ⟨hp, g, d, t + 1, os⟩) (ox := ox) (od := od) X I hm ?_)))
  refine wpAny_pure ?_
  show wpAny _ _ (handedOut (.ref D)) _ _ _
  rw [handedOut_of (v := .ref D) rfl]
  first
    | exact wpAny_pure (wpAny_pure h)
    | exact wpAny_pure h
    | exact wpAny_pure (wpAny_bind (wpAny_pure (wpAny_pure h)))
theorem fx_kitx (hga : findIn K (.ref D) "__getattribute__" = some (some (.builtin "BaseException.__getattribute__"))) (hgt : findIn K (.ref D) "__getattr__" = some none) (hsub : subIn K (.ref D) (.type "BaseException") = some true) (hdct : hasDictIn K D = true) (ha : findIn K (.ref D) "__class__" = some (some (.builtin "object.__class__")))
    (hn : specialIn K (.builtin "object.__class__") "__get__" = some (some (.builtin "getset_descriptor.__get__"))) (htk : takesIn K (.builtin "object.__class__") = some true) (hm : mroIn K D (.type "object") = some true) :
    KitX K (.ref x) (.ref D) (fun h => ∃ od, InstAt h x ox D od) where
  ty := fun _ _ _ ⟨_, I⟩ => I.type
  it := fun _ _ X _ => by
    obtain ⟨cdD, hcD, _⟩ := any_some hdct
    unfold clsIn at hcD
    split at hcD
    · rename_i c' d' cd' sl' ho
      intro A' Q' E' s' k q
      unfold isType loadHead
      exact wpAny_bind (wpAny_loadPart (k _ _ (X _ _ ho)) (wpAny_pure q))
    · cases hcD
  ne := fun h tp dd its n sl X htp => by
    obtain ⟨cdD, hcD, _⟩ := any_some hdct
    refine Bool.eq_false_iff.mpr fun q => ?_
    have e : D = tp := Value.ref.inj (beq_iff_eq.mp q)
    subst e
    unfold clsIn at hcD
    split at hcD
    · rename_i c' d' cd' sl' ho
      have z := (X _ _ ho).symm.trans htp
      cases z
    · cases hcD
  ca := fun X ⟨_, I⟩ k => fx_class hga hgt hsub hdct ha hn htk hm X I k
end
end PySem.W
namespace Fx
open PySem PySem.Spec PyProof.Rows L2
/-- isinstance(e, c), e the exception that the suite holds, with its dict -/
theorem call_isX {X : Cx} {a D dd : Addr} {oe : Obj} {pn : List (Addr × Obj)} {fs : List (Str × V)} (C : ExcC X.K D) (hz : Zc (.ref D) (some dd) oe) (hf : ∃ vs, oe.data = .fields vs) :
    CallR (X.suite a ((a, oe) :: pn)) (.builtin "isinstance") (fun xs H Q => H dd = some (.xd fs) ∧ rIsE X.K D a xs H Q) := by
  intro pins s σ H xs us Q I r h
  obtain ⟨hdd, c, cv, b, rfl, hcv, e, q⟩ := h
  cases r with
  | cons rx rr =>
    cases rr with
    | cons rt rr =>
      cases rr
      cases rx
      have ec := hcv _ rt
      subst ec
      obtain ⟨hget, _⟩ := I.pin (a, oe) (List.mem_append.mpr (.inl List.mem_cons_self))
      obtain ⟨vs, hv⟩ := hf
      have hx : ObjOk X.prog X.w H s.heap dd (.xd fs) := I.hok dd _ hdd
      obtain ⟨mA, ⟨od, es, ep, ho, hrest⟩, hr⟩ := hx
      have J : PySem.W.InstAt s.heap a oe D (some od) := ⟨hget, hz.1, by unfold PySem.W.notCls; rw [hv] <;> rfl, by rw [hz.2]; exact ho⟩
      exact PySem.W.kia_one (PySem.W.fx_kitx C.hg C.hk C.hs C.hd C.ha C.hn C.ht C.hm) I.kIn ⟨_, J⟩ e (fun z => nomatch z) fun tk => ⟨.bl b, H, I.kept (t' := tk) fun _ _ z => z, rfl, q⟩
end Fx
namespace Fx
open PySem PySem.Spec PyProof.Rows L2
def clsVal : V → Option Value
  | .ref C => some (.ref C)
  | .ty n => some (.type n)
  | _ => none
/-- isinstance(e, c) in an except suite, e the exception that it holds: its class cls, its dict d -/
def rIsY (K : PySem.W.Frag) (a : Addr) (cls : Value) (d : Option Addr) : List V → Hp → VK → Prop := fun xs H Q => ∃ c, xs = [.ref a, c] ∧ ∃ D, cls = .ref D ∧ ∃ dd, d = some dd ∧ (∃ fs, H dd = some (.xd fs)) ∧ ExcC K D ∧ ∃ cv, clsVal c = some cv ∧ ∃ b, PySem.W.kitOne K (.ref D) cv = some b ∧ Q (.bl b) H
theorem call_isY {X : Cx} {a : Addr} {oe : Obj} {cls : Value} {d : Option Addr} {pn : List (Addr × Obj)} (hz : Zc cls d oe) (hf : ∃ vs, oe.data = .fields vs) :
    CallR (X.suite a ((a, oe) :: pn)) (.builtin "isinstance") (rIsY X.K a cls d) := by
  intro pins s σ H xs us Q I r h
  obtain ⟨c, e1, D, e2, dd, e3, ⟨fs, hfs⟩, C, cv, hcv, b, hb, q⟩ := h
  subst e1 e2 e3
  refine call_isX (fs := fs) C hz hf pins s σ H _ us Q I r ⟨hfs, c, cv, b, rfl, fun u ru => ?_, hb, q⟩
  cases c with
  | ref C2 => cases hcv; exact ru
  | ty n => cases hcv; exact ru
  | _ => cases hcv
theorem XC.xfc {K : PySem.W.Frag} {P : Program} {x f : Str} {C : Addr} (T : XC K P x f C) : XfC K C := ⟨T.ga, T.gg, T.exC, T.hdC⟩
end Fx
/-! The head's facts: defs, errors' classes, any further facts as tests of the written part -/
namespace FxH
open PySem PySem.Spec PyProof.Rows L2 He
def asR (g : Addr → Option Obj) : Nat → List Addr
  | 0 => [mainGlobals, cStatics]
  | n + 1 => growD g (asR g n)
abbrev Fct := PySem.W.Frag → Bool
/-- an error's class: its name, its field, its __init__ -/
structure InD where
  x : Str
  f : Str
  qual : Str
  st : Stmt
abbrev FnX : Type := Option (Str × Str × Arguments × FuncBody × Scope × Addr × List Str × Value × Addr)
def fnXo (K : PySem.W.Frag) (x : Str) : FnX := match K.lookup (ma K (ga K x) "__init__") with
  | some ⟨_, _, .func fd, _⟩ => some (fd.name, fd.qualname, fd.params, fd.body, fd.scope, fd.globals, fd.closure.map (·.1), fd.defaults, fd.builtins)
  | _ => none
def InD.val (d : InD) : FnX := some ("__init__", d.qual, defArgs d.st, .stmts (defBody d.st), defScope d.st, mainGlobals, ["__class__"], .none, builtinsNs)
def clsB (K : PySem.W.Frag) (C : Addr) : Bool := match K.lookup C with
  | some ⟨.type "type", _, .cls cd, sl⟩ => (match cd.mro, sl.toList with
    | .ref C' :: bm, [_, _, _, _, some (.builtin n), _] => C' == C && (n == "ValueError.__new__" && (!cd.hasDel && (cd.hasDict && (PySem.HandSPX.refsVE bm && decide (PySem.W.alongIn K "__init__" bm = some (some (.builtin "ValueError.__init__")))))))
    | _, _ => false)
  | _ => false
theorem clsB_ok {K : PySem.W.Frag} {C : Addr} (q : clsB K C = true) : ∃ nm q N bs bm sn sub ab col dd k0 k1 k2 k3 k5, K.lookup C = some (excClassObj nm q C N bs bm true sn sub ab col dd k0 k1 k2 k3 k5 "ValueError.__new__") ∧ PySem.HandSPX.refsVE bm = true ∧ PySem.W.alongIn K "__init__" bm = some (some (.builtin "ValueError.__init__")) := by
  unfold clsB at q
  split at q
  · rename_i dd cd sl ho
    split at q
    · rename_i C' bm k0 k1 k2 k3 n k5 hm hs
      simp only [Bool.and_eq_true, beq_iff_eq, Bool.not_eq_true', decide_eq_true_eq] at q
      obtain ⟨rfl, rfl, hdel, hdct, ht, hal⟩ := q
      obtain ⟨nm, bs, mro, ns, qn, hd, sn, sub, ab, col, del⟩ := cd
      dsimp only at hm hdel hdct
      subst hm hdel hdct
      have hsl : sl = #[k0, k1, k2, k3, some (.builtin "ValueError.__new__"), k5] := by
        obtain ⟨l⟩ := sl
        simp only at hs
        rw [hs]
      subst hsl
      exact ⟨nm, qn, ns, bs, bm, sn, sub, ab, col, dd, k0, k1, k2, k3, k5, ho, ht, hal⟩
    · cases q
  · cases q
/-- the cell and the code of the __init__ -/
def iniB (K : PySem.W.Frag) (C fI : Addr) (qual file : Str) : Bool := match K.lookup fI with
  | some ⟨_, _, .func fd, _⟩ => (match fd.closure, fd.code with
    | [(_, cc)], .ref cda => PySem.W.codeIn K (.ref cda) qual && ((match K.lookup cda with
        | some ⟨_, _, .fields vs, _⟩ => (match (vs[2]? : Option Value) with
          | some (Value.str n _) => decide (n = file)
          | _ => false)
        | _ => false) && (match K.lookup cc with
        | some ⟨_, _, .cell (some (.ref D)), _⟩ => decide (D = C)
        | _ => false))
    | _, _ => false)
  | _ => false
def InD.ok (file : Str) (K : PySem.W.Frag) (d : InD) : Bool :=
  let C := ga K d.x
  let fI := ma K C "__init__"
  eqO (PySem.W.nsIn K mainGlobals d.x) (some (some (.ref C))) && (clsB K C && (eqO (PySem.W.findIn K (.ref C) "__setattr__") (some (some (.builtin "object.__setattr__"))) &&
  (eqO (PySem.W.findIn K (.ref C) "__getattribute__") (some (some (.builtin "BaseException.__getattribute__"))) && (eqO (PySem.W.findIn K (.ref C) "__getattr__") (some none) && (eqO (PySem.W.findIn K (.ref C) d.f) (some none) &&
  (PySem.W.keepIn K (.ref C) && (decide (PySem.W.subIn K (.ref C) (.type "BaseException") = some true) && (decide (PySem.W.subIn K (.ref C) (.type "ValueError") = some true) && (decide (PySem.W.typeIn K (.ref C) = some (.type "type")) &&
  (PySem.W.hasDictIn K C && (eqO (PySem.W.nsIn K cStatics "thirdparty.any") (some none) && (eqO (PySem.W.findIn K (.ref C) "__init__") (some (some (.ref fI))) && (decide (PySem.W.typeIn K (.ref fI) = some (.type "function")) && iniB K C fI d.qual file)))))))))))))
/-- what isinstance asks of an error's class -/
def excB (K : PySem.W.Frag) (x : Str) : Bool :=
  let C := ga K x
  eqO (PySem.W.findIn K (.ref C) "__getattribute__") (some (some (.builtin "BaseException.__getattribute__"))) && (eqO (PySem.W.findIn K (.ref C) "__getattr__") (some none) && (decide (PySem.W.subIn K (.ref C) (.type "BaseException") = some true) &&
  (PySem.W.hasDictIn K C && (eqO (PySem.W.findIn K (.ref C) "__class__") (some (some (.builtin "object.__class__"))) && (eqO (PySem.W.specialIn K (.builtin "object.__class__") "__get__") (some (some (.builtin "getset_descriptor.__get__"))) &&
  (decide (PySem.W.takesIn K (.builtin "object.__class__") = some true) && decide (PySem.W.mroIn K C (.type "object") = some true)))))))
theorem excB_ok {K : PySem.W.Frag} {x : Str} (h : excB K x = true) : ExcC K (ga K x) := by
  obtain ⟨h1, h⟩ := ba h
  obtain ⟨h2, h⟩ := ba h
  obtain ⟨h3, h⟩ := ba h
  obtain ⟨h4, h⟩ := ba h
  obtain ⟨h5, h⟩ := ba h
  obtain ⟨h6, h⟩ := ba h
  obtain ⟨h7, h8⟩ := ba h
  exact ⟨eqO_ok h1, eqO_ok h2, of_decide_eq_true h3, h4, eqO_ok h5, eqO_ok h6, of_decide_eq_true h7, of_decide_eq_true h8⟩
/-- the class's facts, from the hook -/
theorem InD.xc {P : Program} {K : PySem.W.Frag} {d : InD} {m : Str} {p1 p2 q1 q2 q3 q4 q5 q6 q7 q8 q9 q10 : Pos} (e : fnXo K d.x = d.val) (c : d.ok (P.main.file : Str) K = true) (fo : Fx.FOk d.f)
    (hA : defArgs d.st = Fx.xA d.f p1 p2) (hB : defBody d.st = Fx.xB d.f m q1 q2 q3 q4 q5 q6 q7 q8 q9 q10) (hS : defScope d.st = Fx.xS d.f) (hp : (q3.endLine == q5.line) = true)
    (bd : ∀ (fd : FuncData) (p1 p2 : Pos), fd.params = Fx.xA d.f p1 p2 → fd.defaults = .none → ∀ (u1 u2 : Value), bindArgs fd ⟨[u1, u2], []⟩ = pure [(("self" : Str), u1), (d.f, u2)])
    (top : (P.main.scope.names.lookup ("super" : Str)).isSome = false) : Fx.XC K P d.x d.f (ga K d.x) := by
  obtain ⟨c0, c⟩ := ba c
  obtain ⟨c1, c⟩ := ba c
  obtain ⟨c2, c⟩ := ba c
  obtain ⟨c3, c⟩ := ba c
  obtain ⟨c4, c⟩ := ba c
  obtain ⟨c5, c⟩ := ba c
  obtain ⟨c6, c⟩ := ba c
  obtain ⟨c7, c⟩ := ba c
  obtain ⟨c8, c⟩ := ba c
  obtain ⟨c9, c⟩ := ba c
  obtain ⟨c10, c⟩ := ba c
  obtain ⟨c11, c⟩ := ba c
  obtain ⟨c12, c⟩ := ba c
  obtain ⟨c13, c14⟩ := ba c
  refine ⟨fo, clsB_ok c1, eqO_ok c2, eqO_ok c3, eqO_ok c4, eqO_ok c5, c6, of_decide_eq_true c7, of_decide_eq_true c8, of_decide_eq_true c9, c10, eqO_ok c11, ⟨_, eqO_ok c12, of_decide_eq_true c13, ?_⟩, bd, top⟩
  unfold iniB at c14
  unfold fnXo at e
  cases q : K.lookup (ma K (ga K d.x) "__init__") with
  | none =>
    rw [q] at c14
    cases c14
  | some o =>
    obtain ⟨oc, od, dt, osl⟩ := o
    rw [q] at c14 e
    cases dt with
    | func fd =>
      obtain ⟨n1, n2, n3, n4, n5, n6, n7, n8, n9, n10, n11, n12, n13, n14, n15⟩ := fd
      have e2 : (some (n1, n2, n3, n4, n5, n6, n7.map (·.1), n8, n15) : FnX) = some (("__init__" : Str), d.qual, defArgs d.st, FuncBody.stmts (defBody d.st), defScope d.st, mainGlobals, [("__class__" : Str)], Value.none, builtinsNs) := e
      simp only [Option.some.injEq, Prod.mk.injEq] at e2
      obtain ⟨h1, h2, h3, h4, h5, h6, h7, h8, h9⟩ := e2
      subst h1 h2 h3 h4 h5 h6 h8 h9
      dsimp only at c14
      cases n7 with
      | nil => cases h7
      | cons a n7 =>
        cases n7 with
        | cons b n7 =>
          have z := congrArg List.length h7
          simp at z
        | nil =>
          obtain ⟨nm, cc⟩ := a
          have h7' : nm = ("__class__" : Str) := by
            have z := List.cons.inj h7
            exact z.1
          subst h7'
          cases n13 with
          | ref cda =>
            dsimp only at c14
            obtain ⟨d1, d2⟩ := ba c14
            obtain ⟨d3, d4⟩ := ba d2
            split at d3
            · rename_i ccl cdd vs ccs hl
              split at d3
              · rename_i n tf hvs
                have en : n = (P.main.file : Str) := of_decide_eq_true d3
                subst en
                split at d4
                · rename_i cl cld D csl hcell
                  have eD : D = ga K d.x := of_decide_eq_true d4
                  subst eD
                  refine ⟨d.qual, m, oc, od, n9, n10, n11, n12, cda, cc, n14, osl, p1, p2, q1, q2, q3, q4, q5, q6, q7, q8, q9, q10, ccl, cdd, vs, ccs, tf, cl, cld, csl, ?_, d1, hl, hvs, hcell, hp⟩
                  rw [hA, hB, hS]
                · cases d4
              · cases d3
            · cases d3
          | _ => cases c14
    | _ => cases c14
/-! ### the Hook -/
abbrev AlX : Type := Bool × List FnW × List FnX
def obsX (file : Str) (fa : List Fct) (fn : List DefD) (fi : List InD) (K : PySem.W.Frag) : AlX := (((fa.all fun f => f K) && (fn.all fun d => d.ok K)) && (fi.all fun d => d.ok file K), fn.map (fun d => fnW K d.at_), fi.map fun d => fnXo K d.x)
def valX (fn : List DefD) (fi : List InD) : AlX := (true, fn.map DefD.val, fi.map InD.val)
def SaysX (file : Str) (fa : List Fct) (fn : List DefD) (fi : List InD) (K : PySem.W.Frag) : Prop := obsX file fa fn fi K = valX fn fi
def obsXG (n : Nat) (file : Str) (fa : List Fct) (fn : List DefD) (fi : List InD) (g : Addr → Option Obj) : AlX := obsX file fa fn fi (frG g (asR g n))
def hookX (n : Nat) (file : Str) (fa : List Fct) (fn : List DefD) (fi : List InD) : PySem.W.Hook where
  α := AlX
  obs := fun s => obsXG n file fa fn fi s.heap.get?
  val := fun _ => valX fn fi
  says := fun _ h => ∃ K : PySem.W.Frag, K.In h ∧ SaysX file fa fn fi K
  of := fun _ _ e => ⟨_, frG_in, e⟩
  keeps := fun _ _ _ ⟨K, hK, c⟩ k => ⟨K, PySem.W.Frag.In.keeps hK k, c⟩
theorem obsXG_eq {n : Nat} {file : Str} {fa : List Fct} {fn : List DefD} {fi : List InD} {g : Addr → Option Obj} {s : Shared} (h : ∀ a, g a = s.heap.get? a) : obsXG n file fa fn fi g = (hookX n file fa fn fi).obs s := by
  have e : g = s.heap.get? := funext h
  rw [e] <;> rfl
section
variable {file : Str} {fa : List Fct} {fn : List DefD} {fi : List InD} {K : PySem.W.Frag}
theorem SaysX.fact (c : SaysX file fa fn fi K) (i : Nat) {f : Fct} (h : fa[i]? = some f := by rfl) : f K = true := by
  have c1 := (ba (ba (show (((fa.all fun f => f K) && (fn.all fun d => d.ok K)) && (fi.all fun d => d.ok file K)) = true from congrArg (fun z : AlX => z.1) c)).1).1
  exact List.all_eq_true.mp c1 f (List.mem_of_getElem? h)
theorem SaysX.def_ (c : SaysX file fa fn fi K) (i : Nat) {d : DefD} (h : fn[i]? = some d := by rfl) : ∃ fd, FunD K d.name d.qual d.params d.body d.scope (d.dvs K) (d.kws K) (fAd K d.at_) fd := by
  have c2 := (ba (ba (show (((fa.all fun f => f K) && (fn.all fun d => d.ok K)) && (fi.all fun d => d.ok file K)) = true from congrArg (fun z : AlX => z.1) c)).1).2
  have e : fn.map (fun d => fnW K d.at_) = fn.map DefD.val := congrArg (fun z : AlX => z.2.1) c
  have e2 : (fn.map fun d => fnW K d.at_)[i]? = (fn.map DefD.val)[i]? := by rw [e]
  rw [List.getElem?_map, List.getElem?_map, h] at e2
  exact DefD.funD (Option.some.inj e2) (List.all_eq_true.mp c2 d (List.mem_of_getElem? h))
theorem SaysX.ini (c : SaysX file fa fn fi K) (i : Nat) {d : InD} (h : fi[i]? = some d := by rfl) : fnXo K d.x = d.val ∧ d.ok file K = true := by
  have c2 := (ba (show (((fa.all fun f => f K) && (fn.all fun d => d.ok K)) && (fi.all fun d => d.ok file K)) = true from congrArg (fun z : AlX => z.1) c)).2
  have e : fi.map (fun d => fnXo K d.x) = fi.map InD.val := congrArg (fun z : AlX => z.2.2) c
  have e2 : (fi.map fun d => fnXo K d.x)[i]? = (fi.map InD.val)[i]? := by rw [e]
  rw [List.getElem?_map, List.getElem?_map, h] at e2
  exact ⟨Option.some.inj e2, List.all_eq_true.mp c2 d (List.mem_of_getElem? h)⟩
end
end FxH
/-! Short words over the layer: a def by its name (Src), a def that keeps its promise (Cal), constants (Cst) -/
namespace Fx
open PySem PySem.Spec PyProof.Rows L2
/-- a def of the text as it stands behind the top -/
def Src (K : PySem.W.Frag) (mg : Str → Option Value) (x : Str) (st : Stmt) : Prop := ∃ f fd, mg x = some (.ref f) ∧ FunD K x x (defArgs st) (defBody st) (defScope st) [] [] f fd
/-- a def that keeps its promise -/
structure Cal (P : Program) (w : World) (K : PySem.W.Frag) (mg : Str → Option Value) (base : Heap) (CX : CXT) (k : Nat) (x : Str) (ps : List Str) (sp : Sp) : Prop where
  ex : ∃ f fd, mg x = some (.ref f) ∧ PySem.W.keepIn K (.ref f) = true ∧ Binds K fd ps [] ∧ FnOk P w K mg base CX k f fd ps sp
/-- a constant of the module -/
def Cst (mg : Str → Option Value) (x : Str) (v : V) : Prop := ∃ u, mg x = some u ∧ RelV v u
section
variable {P : Program} {w : World} {K : PySem.W.Frag} {mg : Str → Option Value} {base : Heap} {x : Str} {st : Stmt} {N ps : List Str} {k : Nat} {sp : Sp}
abbrev BindP (x : Str) (st : Stmt) (ps : List Str) : Prop := ∀ (kV doc pm : Value) (an : Option Addr) (cdv ct : Value) (us : List Value), us.length = ps.length → bindArgs (PySem.W.fnOf x x (defArgs st) (defBody st) (defScope st) .none kV doc pm an cdv ct) ⟨us, []⟩ = pure (ps.zip us)
/-- a def that lets nothing out -/
theorem Src.cal (S : Src K mg x st) (sc : FnScope N ps (defScope st)) (bn : BindP x st ps) (len : ∀ vs H Q E, sp vs H Q E → vs.length = ps.length)
    (hbody : ∀ (f : Addr) (cdv : Value) (A : Around) (outer : List Env) (s : Shared) (H : Hp) (vs : List V) (Q : VK) (E : XK), Room k (A.deeper (envOfC x (defScope st) s.heap.objs.size f cdv)) → sp vs H Q E →
      ∃ t, PSs (cxOf CX0 P w K mg base N x (defScope st) f cdv A outer s H E).nox (defBody st) t ∧ t { nx := fun _ H' => Q .non H', rt := Q } (start N vs) H) : Cal P w K mg base CX0 (k + 1) x ps sp := by
  obtain ⟨f, fd, g, F⟩ := S
  refine ⟨f, fd, g, F.kp, F.bindsN bn, F.ok sc len fun cdv A outer s H vs Q E hr hsp => ?_⟩
  obtain ⟨t, h, q⟩ := hbody f cdv A outer s H vs Q E hr hsp
  exact ⟨t, h.nox, q⟩
/-- a def that may raise -/
theorem Src.calX (S : Src K mg x st) (sc : FnScope N ps (defScope st)) (bn : BindP x st ps) (len : ∀ vs H Q E, sp vs H Q E → vs.length = ps.length)
    (hbody : ∀ (f : Addr) (cdv : Value) (A : Around) (outer : List Env) (s : Shared) (H : Hp) (vs : List V) (Q : VK) (E : XK), Room k (A.deeper (envOfC x (defScope st) s.heap.objs.size f cdv)) → sp vs H Q E →
      ∃ t, PSs (cxOf (L2.CX P w) P w K mg base N x (defScope st) f cdv A outer s H E) (defBody st) t ∧ t { nx := fun _ H' => Q .non H', rt := Q } (start N vs) H) : Cal P w K mg base (L2.CX P w) (k + 1) x ps sp := by
  obtain ⟨f, fd, g, F⟩ := S
  exact ⟨f, fd, g, F.kp, F.bindsN bn, F.ok sc len fun cdv A outer s H vs Q E hr hsp => hbody f cdv A outer s H vs Q E hr hsp⟩
end
/-! ### arguments without a star -/
def nostar : Expr → Bool
  | .Starred _ _ => false
  | _ => true
theorem star_ok {e : Expr} {es : List Expr} {env : Env} (h : nostar e = true) : starEach (e :: es) env = (false, eval e env) :: starEach es env := by
  cases e <;> first | rfl | cases h
theorem back_ok {pos : Pos} {env : Env} : ∀ {es : List Expr}, es.all nostar = true → (backTo pos (starEach es env)).any (·.1) = false
  | [], _ => rfl
  | e :: es, h => by
    simp only [List.all_cons, Bool.and_eq_true] at h
    rw [star_ok h.1]
    show (false || (backTo pos (starEach es env)).any (·.1)) = false
    rw [back_ok h.2]
    rfl
theorem pa_c {X : Cx} {e : Expr} {es : List Expr} {te : TE} {t : TA} (ha : PE X e te) (hr : PA X es t) (hs : nostar e = true := by rfl) : PA X (e :: es) (tCons te t) := pa_cons ha hr (star_ok hs)
section
variable {X : Cx} {x : Str} {p pos : Pos} {e : Expr} {es : List Expr} {t : TA} {id T : String} {r : List V → Hp → VK → Prop}
theorem pe_cB (hc : CallR X (.builtin id) r) (hm : X.mg x = none) (hv : bootBuiltins x = some (.builtin id)) (ha : PA X (e :: es) t) (hg : Gl X x := by rfl) (hn : x ≠ "__name__" := by decide) (hdb : (x == ("__debug__" : Str)) = false := by decide)
    (hs : (e :: es).all nostar = true := by rfl) : PE X (.Call (.Name x p) (e :: es) [] pos) (tCB r t) := by
  simp only [List.all_cons, Bool.and_eq_true] at hs
  exact pe_callB hc hg hm hv ha hn hdb (star_ok hs.1) (back_ok hs.2)
theorem pe_cTy (hc : CallR X (.type T) r) (hm : X.mg x = none) (hv : bootBuiltins x = some (.type T)) (ha : PA X (e :: es) t) (hg : Gl X x := by rfl) (hn : x ≠ "__name__" := by decide) (hdb : (x == ("__debug__" : Str)) = false := by decide)
    (hs : (e :: es).all nostar = true := by rfl) : PE X (.Call (.Name x p) (e :: es) [] pos) (tCB r t) := by
  simp only [List.all_cons, Bool.and_eq_true] at hs
  exact pe_callTy hc hg hm hv ha hn hdb (star_ok hs.1) (back_ok hs.2)
end
section
variable {X : Cx} {x : Str} {ps : List Str} {sp : Sp} {k : Nat} {CX : CXT} {E : XK} {e : Expr} {es : List Expr} {t : TA} {p pos : Pos}
/-- f(e, ..) -/
theorem pe_cal (C : Cal X.prog X.w X.K X.mg X.base CX k x ps sp) (hr : Room k X.A) (hx : Passes CX X E) (ha : PA X (e :: es) t) (hg : Gl X x := by rfl) (hdb : (x == ("__debug__" : Str)) = false := by decide)
    (hs : (e :: es).all nostar = true := by rfl) : PE X (.Call (.Name x p) (e :: es) [] pos) (tCall sp [] E t) := by
  obtain ⟨f, fd, g, kp, b, F⟩ := C.ex
  simp only [List.all_cons, Bool.and_eq_true] at hs
  exact pe_call F hr hg g kp b .nil hx ha hdb (star_ok hs.1) (back_ok hs.2)
theorem pe_cal0 (C : Cal X.prog X.w X.K X.mg X.base CX k x ps sp) (hr : Room k X.A) (hx : Passes CX X E) (hg : Gl X x := by rfl) (hdb : (x == ("__debug__" : Str)) = false := by decide) : PE X (.Call (.Name x p) [] [] pos) (tCall sp [] E tNil) := by
  obtain ⟨f, fd, g, kp, b, F⟩ := C.ex
  exact pe_call0 F hr hg g kp b .nil hx hdb
/-- f(e, ..) of a def that may raise, in a try's body -/
theorem pe_calS {W : WX} (C : Cal X.prog X.w X.K X.mg X.base (L2.CX X.prog X.w) k x ps sp) (hr : Room k X.A) (tk : Takes X W) (ha : PA X (e :: es) t) (hg : Gl X x := by rfl) (hdb : (x == ("__debug__" : Str)) = false := by decide)
    (hs : (e :: es).all nostar = true := by rfl) : PE X (.Call (.Name x p) (e :: es) [] pos) (tCallS sp (WE W) t) := by
  obtain ⟨f, fd, g, kp, b, F⟩ := C.ex
  simp only [List.all_cons, Bool.and_eq_true] at hs
  exact pe_callS F hr hg g kp b (fun σ => passAt tk σ) ha hdb (star_ok hs.1) (back_ok hs.2)
theorem pe_cst {v : V} (h : Cst X.mg x v) (hg : Gl X x := by rfl) (hdb : (x == ("__debug__" : Str)) = false := by decide) : PE X (.Name x p) (tC v) := by
  obtain ⟨u, hm, r⟩ := h
  exact pe_glob hg hm r hdb
end
end Fx
/-! The law's bag of numbers -/
namespace Fx
open PySem PySem.Spec PyProof.Rows L2
def bagKV (c : Addr) (a r m n : Int) : List (Key × V) := [(.inr "cells", .ref c), (.inr "at", .int a), (.inr "rest", .int r), (.inr "mixed", .int m), (.inr "count", .int n)]
section
variable {c : Addr} {a r m n : Int} {v : Int}
theorem bag_cells : valV (bagKV c a r m n) (.inr "cells") = some (.ref c) := rfl
theorem bag_at : valV (bagKV c a r m n) (.inr "at") = some (.int a) := rfl
theorem bag_rest : valV (bagKV c a r m n) (.inr "rest") = some (.int r) := rfl
theorem bag_mixed : valV (bagKV c a r m n) (.inr "mixed") = some (.int m) := rfl
theorem bag_count : valV (bagKV c a r m n) (.inr "count") = some (.int n) := rfl
theorem bag_atP : putK (bagKV c a r m n) (.inr "at") (.int v) = bagKV c v r m n := rfl
theorem bag_restP : putK (bagKV c a r m n) (.inr "rest") (.int v) = bagKV c a v m n := rfl
theorem bag_mixedP : putK (bagKV c a r m n) (.inr "mixed") (.int v) = bagKV c a r v n := rfl
theorem bag_countP : putK (bagKV c a r m n) (.inr "count") (.int v) = bagKV c a r m v := rfl
end
/-- the bag at b, its numbers at c -/
def BagC (H : Hp) (b c : Addr) : Prop := ∃ (ns : List Int) (a r m n : Int), H b = some (.dK (bagKV c a r m n)) ∧ H c = some (.lst (ns.map V.int)) ∧ 0 ≤ a
def Bag (H : Hp) (b : Addr) : Prop := ∃ c : Addr, BagC H b c
/-- all that was tracked but the bag is as it was; the bag is a bag -/
structure Kp (b : Addr) (H H' : Hp) : Prop where
  keep : ∀ a o, a ≠ b → H a = some o → H' a = some o
  bag : Bag H' b
  cel : ∀ c, BagC H b c → BagC H' b c
section
variable {b c D : Addr} {H H1 H2 : Hp}
theorem Bag.some (B : Bag H b) : ∃ kvs, H b = some (.dK kvs) := by
  obtain ⟨c, ns, a, r, m, n, h, _⟩ := B
  exact ⟨_, h⟩
theorem BagC.same (B : BagC H b c) (s : Same H H1) : BagC H1 b c := by
  obtain ⟨ns, a, r, m, n, h1, h2, h3⟩ := B
  exact ⟨ns, a, r, m, n, s _ _ h1, s _ _ h2, h3⟩
theorem Kp.refl (B : Bag H b) : Kp b H H := ⟨fun _ _ _ h => h, B, fun _ h => h⟩
theorem Kp.trans (x : Kp b H H1) (y : Kp b H1 H2) : Kp b H H2 := ⟨fun a o n h => y.keep a o n (x.keep a o n h), y.bag, fun c h => y.cel c (x.cel c h)⟩
theorem Bag.same (B : Bag H b) (s : Same H H1) : Bag H1 b := by
  obtain ⟨c, h⟩ := B
  exact ⟨c, h.same s⟩
theorem Kp.same (B : Bag H b) (s : Same H H1) : Kp b H H1 := ⟨fun a o _ h => s a o h, B.same s, fun c h => h.same s⟩
theorem Kp.then (x : Kp b H H1) (s : Same H1 H2) : Kp b H H2 := x.trans (Kp.same x.bag s)
theorem BagC.put {o : HO} (B : BagC H b c) (hb : b ≠ D) (hc : c ≠ D) : BagC (upd H D o) b c := by
  obtain ⟨ns, a, r, m, n, h1, h2, h3⟩ := B
  exact ⟨ns, a, r, m, n, by rw [upd_ne hb]; exact h1, by rw [upd_ne hc]; exact h2, h3⟩
/-- what was made since then may be changed -/
theorem Kp.put {o : HO} (B : Bag H b) (x : Kp b H H1) (hD : H D = Option.none) : Kp b H (upd H1 D o) := by
  have g : ∀ c, BagC H b c → BagC (upd H1 D o) b c := by
    intro c Bc
    have B1 := x.cel c Bc
    obtain ⟨ns, a, r, m, n, h1, h2, h3⟩ := Bc
    exact B1.put (ne_of_none h1 hD) (ne_of_none h2 hD)
  obtain ⟨c, Bc⟩ := B
  exact ⟨fun a o' n h => by rw [upd_ne (ne_of_none h hD)]; exact x.keep a o' n h, ⟨c, g c Bc⟩, g⟩
theorem Kp.none_ne (x : Kp b H H1) (B : Bag H b) (hD : H D = Option.none) : D ≠ b := fun e => by
  obtain ⟨kvs, h⟩ := B.some
  rw [← e, hD] at h
  cases h
theorem Bag.lst (B : Bag H b) {a : Addr} {xs : List V} (h : H a = Option.some (.lst xs)) : a ≠ b := by
  obtain ⟨c, ns, x, r, m, n, h1, _⟩ := B
  exact ne_of h h1 (by intro z; cases z)
theorem Bag.tup (B : Bag H b) {a : Addr} {xs : List V} (h : H a = Option.some (.tup xs)) : a ≠ b := by
  obtain ⟨c, ns, x, r, m, n, h1, _⟩ := B
  exact ne_of h h1 (by intro z; cases z)
theorem Kp.lst (x : Kp b H H1) (B : Bag H b) {a : Addr} {xs : List V} (h : H a = Option.some (.lst xs)) : H1 a = Option.some (.lst xs) := x.keep _ _ (B.lst h) h
theorem Kp.tup (x : Kp b H H1) (B : Bag H b) {a : Addr} {xs : List V} (h : H a = Option.some (.tup xs)) : H1 a = Option.some (.tup xs) := x.keep _ _ (B.tup h) h
theorem Kp.free (x : Kp b H H1) {p : Addr} (h : H1 p = Option.none) : H p = Option.none := by
  cases q : H p with
  | none => rfl
  | some o =>
    by_cases e : p = b
    · obtain ⟨kvs, hb⟩ := x.bag.some
      rw [e, hb] at h
      cases h
    · rw [x.keep p o e q] at h
      cases h
theorem same_new {H : Hp} {p : Addr} {o : HO} (h : H p = Option.none) : Same H (upd H p o) := fun b x e => by
  rw [upd_ne (ne_of_none e h)]
  exact e
end
/-- _law_pick(bag, many) -/
def spPick : Sp := fun vs H Q _ => ∃ (b : Addr) (many : Int), vs = [.ref b, .int many] ∧ Bag H b ∧ 0 < many ∧ many < 1073741824 ∧ ∀ (n : Int) (H' : Hp), 0 ≤ n → n < many → Kp b H H' → Q (.int n) H'
/-- _law_bag(script) -/
def spBag (K : PySem.W.Frag) : Sp := fun vs H Q _ => ∃ (a : Addr) (ns : List Int), vs = [.ref a] ∧ SqL K H a (ns.map V.int) ∧ ns.length ≤ 1000 ∧ ∀ (b : Addr) (H' : Hp), Same H H' → H b = none → Bag H' b → Q (.ref b) H'
end Fx
/-! Readings evaluated by simp -/
namespace Fx
open PySem PySem.Spec PyProof.Rows L2
section
variable {H H' : Hp} {a b p : Addr} {z : Str} {i : Int} {r : Option V} {v : V} {kvs : List (Key × V)} {o u : HO}
theorem dget_s (hb : H b = some (.dK kvs)) : DGet H b (.str z) r ↔ r = valV kvs (.inr z) := by
  constructor
  · rintro (⟨kvs', k, hr, e, rfl⟩ | ⟨kvs', k, b', hr, e, _⟩)
    · rcases hr with hr | ⟨o, hr⟩
      · rw [hb] at hr
        cases hr
        cases k with
        | inl i => cases e
        | inr y => cases e; rfl
      · rw [hb] at hr
        cases hr
    · cases e
  · rintro rfl
    exact DGet.k (k := Sum.inr z) hb
theorem dget_i (hb : H b = some (.dK kvs)) : DGet H b (.int i) r ↔ r = valV kvs (.inl i) := by
  constructor
  · rintro (⟨kvs', k, hr, e, rfl⟩ | ⟨kvs', k, b', hr, e, _⟩)
    · rcases hr with hr | ⟨o, hr⟩
      · rw [hb] at hr
        cases hr
        cases k with
        | inl i => cases e; rfl
        | inr y => cases e
      · rw [hb] at hr
        cases hr
    · cases e
  · rintro rfl
    exact DGet.k (k := Sum.inl i) hb
theorem dput_s (hb : H b = some (.dK kvs)) (hl : kvs.length < 1000) : DPut H b (.str z) v H' ↔ H' = upd H b (.dK (putK kvs (.inr z) v)) := by
  constructor
  · rintro (⟨kvs', k, hr, e, _, rfl⟩ | ⟨kvs', k, b', hr, e, _⟩)
    · rw [hb] at hr
      cases hr
      cases k with
      | inl i => cases e
      | inr y => cases e; rfl
    · cases e
  · rintro rfl
    exact DPut.k (k := Sum.inr z) hb (Nat.lt_of_lt_of_le hl (by decide))
theorem dget_su : DGet (upd H b (.dK kvs)) b (.str z) r ↔ r = valV kvs (.inr z) := dget_s upd_same
theorem dput_su (hl : kvs.length < 1000) : DPut (upd H b (.dK kvs)) b (.str z) v H' ↔ H' = upd H b (.dK (putK kvs (.inr z) v)) := by
  rw [dput_s upd_same hl, upd_upd]
theorem bag_len {c : Addr} {a r m n : Int} : (bagKV c a r m n).length < 1000 := show 5 < 1000 by decide
theorem ite_dec {p : Prop} [Decidable p] {A B : Prop} : (if decide p = true then A else B) ↔ (if p then A else B) := by simp
theorem ite_ndec {p : Prop} [Decidable p] {A B : Prop} : (if (!decide p) = true then A else B) ↔ (if p then B else A) := by
  by_cases h : p <;> simp [h]
end
end Fx
namespace Fx
open PySem PySem.Spec PyProof.Rows L2
/-- one statement first; the rest stays folded -/
theorem seqI {t u : TS} {D : Ends} {σ : L2.St} {H : Hp} (h : ∀ K : L2.St → Hp → Prop, (∀ σ H, u D σ H → K σ H) → t { D with nx := K } σ H) : tSeq t u D σ H := h (u D) fun _ _ x => x
theorem ifI {tc : TT} {t u : TS} {D : Ends} {σ : L2.St} {H : Hp} (h : ∀ A B : Hp → Prop, (∀ H1, t D σ H1 → A H1) → (∀ H1, u D σ H1 → B H1) → tc σ H (fun b H1 => if b = true then A H1 else B H1)) : tIfS tc t u D σ H := h (t D σ) (u D σ) (fun _ x => x) (fun _ x => x)
theorem while_i {c : TT} {tb : TS} {D : Ends} {σ : L2.St} {H : Hp} (Pv : L2.St → Hp → Prop) (μ : L2.St → Hp → Nat) (h0 : Pv σ H)
    (hs : ∀ σ H, Pv σ H → ∀ A B : Hp → Prop, (∀ H1, tb { D with nx := fun σ' H' => Pv σ' H' ∧ μ σ' H' < μ σ H, ct := fun σ' H' => Pv σ' H' ∧ μ σ' H' < μ σ H, bk := D.nx } σ H1 → A H1) → (∀ H1, D.nx σ H1 → B H1) → c σ H fun b H1 => if b = true then A H1 else B H1) : tWhile c tb D σ H := by
  refine ⟨fun m σ H => m = μ σ H ∧ Pv σ H, ⟨_, rfl, h0⟩, ?_⟩
  rintro m σ H ⟨rfl, p⟩
  exact hs σ H p _ _ (fun H1 t => ⟨fun σ' H' => Pv σ' H' ∧ μ σ' H' < μ σ H, fun σ' H' ⟨a, b⟩ => ⟨μ σ' H', b, rfl, a⟩, t⟩) (fun H1 x => x)
theorem forI {wi : TI} {g : TG} {tb : TS} {D : Ends} {σ : L2.St} {H : Hp} (h : ∀ R : It → Hp → Prop, (∀ J H1, (∃ W : Nat → Nat → L2.St → Hp → Prop, (∃ m, W 0 m σ H1) ∧ ∀ i m σ H, W i m σ H →
    (J.stop i H ∧ D.nx σ H) ∨ (J.go i H ∧ ∃ N : L2.St → Hp → Prop, (∀ σ' H', N σ' H' → ∃ m', m' < m ∧ W (i + 1) m' σ' H') ∧ ∀ x H', J.yld i H x H' → g x σ H' fun σ2 H2 => tb { D with nx := N, ct := N, bk := D.nx } σ2 H2)) → R J H1) → wi σ H R) : tFor wi g tb D σ H := h _ fun _ _ x => x
theorem ite_i {c A B : Prop} [Decidable c] (h1 : c → A) (h2 : ¬ c → B) : if c then A else B := ite2 h1 h2
theorem sz {n : Nat} (h : n ≤ 100000) : n ≤ sizeLine := Nat.le_trans h (by decide)
end Fx
namespace Fx
open PySem PySem.Spec PyProof.Rows L2
theorem cx_K {CX : CXT} {P : Program} {w : World} {K : PySem.W.Frag} {mg : Str → Option Value} {base : Heap} {N : List Str} {qual : Str} {scope : Scope} {f : Addr} {cd : Value} {A : Around} {outer : List Env} {s : Shared} {H : Hp} {E : XK} :
    (cxOf CX P w K mg base N qual scope f cd A outer s H E).K = K := rfl
end Fx
/-! Rules whose readings ask the tracked heap alone -/
namespace Fx
open PySem PySem.Spec PyProof.Rows L2
section
variable {X : Cx}
theorem IxR.imp {r r' : R2} (h : IxR X r) (i : ∀ x y H Q, r' x y H Q → r x y H Q) : IxR X r' := by
  intro value slice pins s σ H x y v u Q I rx ry q e
  exact h value slice pins s σ H x y v u Q I rx ry (i _ _ _ _ q) e
theorem CallR.imp {f : Value} {r r' : List V → Hp → VK → Prop} (h : CallR X f r) (i : ∀ xs H Q, r' xs H Q → r xs H Q) : CallR X f r' := fun pins s σ H xs us Q I rx q => h pins s σ H xs us Q I rx (i _ _ _ q)
theorem SlR.imp {r r' : V → Option Int → Option Int → Hp → VK → Prop} (h : SlR X r) (i : ∀ x lo hi H Q, r' x lo hi H Q → r x lo hi H Q) : SlR X r' := by
  intro pins s σ H x v vl vu lo hi sl Q I rx hs pl pu q
  exact h pins s σ H x v vl vu lo hi sl Q I rx hs pl pu (i _ _ _ _ _ q)
/-- xs[i], a tracked list | tuple -/
def rIxLt : R2 := fun x y H Q => ∃ p i xs, x = .ref p ∧ y = .int i ∧ H p = some (.lst xs) ∧ ∃ v, atI xs i = some v ∧ Q v H
def rIxTt : R2 := fun x y H Q => ∃ p i xs, x = .ref p ∧ y = .int i ∧ H p = some (.tup xs) ∧ ∃ v, atI xs i = some v ∧ Q v H
theorem ix_L : IxR X rIxLt := IxR.imp ix_list fun x y H Q ⟨p, i, xs, e1, e2, h, v, a, q⟩ => ⟨p, xs, i, v, e1, e2, .inl (.inl h), a, q⟩
theorem ix_T : IxR X rIxTt := IxR.imp ix_tup fun x y H Q ⟨p, i, xs, e1, e2, h, v, a, q⟩ => ⟨p, xs, i, v, e1, e2, .inl (.inl h), a, q⟩
/-- s[i] -/
def rIxSt : R2 := fun x y H Q => ∃ z i, x = .str z ∧ y = .int i ∧ z.length ≤ sizeLine ∧ ∃ c, atI z.cps.toList i = some c ∧ Q (.str ⟨#[c]⟩) H
theorem ix_S : IxR X rIxSt := IxR.imp ix_str fun x y H Q ⟨z, i, e1, e2, h, v, a, q⟩ => ⟨z, i, v, e1, e2, h, a, q⟩
/-- len(xs) -/
def rLenL : List V → Hp → VK → Prop := fun xs H Q => ∃ p ys, xs = [.ref p] ∧ H p = some (.lst ys) ∧ Q (.int ys.length) H
def rLenT : List V → Hp → VK → Prop := fun xs H Q => ∃ p ys, xs = [.ref p] ∧ H p = some (.tup ys) ∧ Q (.int ys.length) H
theorem len_L : CallR X (.builtin "len") rLenL := CallR.imp call_len_seq fun xs H Q ⟨p, ys, e, h, q⟩ => ⟨p, ys, e, .inl (.inl (.inl h)), q⟩
theorem len_T : CallR X (.builtin "len") rLenT := CallR.imp call_len_seq fun xs H Q ⟨p, ys, e, h, q⟩ => ⟨p, ys, e, .inr (.inl (.inl h)), q⟩
def rLenS : List V → Hp → VK → Prop := fun xs H Q => ∃ z, xs = [.str z] ∧ z.length ≤ sizeLine ∧ Q (.int z.length) H
theorem len_S : CallR X (.builtin "len") rLenS := call_len_str
/-- int(n) -/
def rIntI : List V → Hp → VK → Prop := fun xs H Q => ∃ i, xs = [.int i] ∧ Q (.int i) H
theorem int_I : CallR X (.type "int") rIntI := CallR.imp call_int1 fun xs H Q h => .inl h
def rOrd : List V → Hp → VK → Prop := fun xs H Q => ∃ x, xs = [.str x] ∧ x.length = 1 ∧ Q (.int (x.cps.getD 0 0 : Nat)) H
theorem ord_S : CallR X (.builtin "ord") rOrd := call_ord
/-- xs[a:b] -/
def rSlLt : V → Option Int → Option Int → Hp → VK → Prop := fun x lo hi H Q => ∃ a xs, x = .ref a ∧ H a = some (.lst xs) ∧ ∀ p, H p = none → Q (.ref p) (upd H p (.lst (cutV xs lo hi)))
theorem sl_L : SlR X rSlLt := SlR.imp sl_list fun x lo hi H Q ⟨a, xs, e, h, q⟩ => ⟨a, xs, e, .inl (.inl h), q⟩
/-- list(t), list(xs) -/
def rLstL : List V → Hp → VK → Prop := fun xs H Q => ∃ p ys, xs = [.ref p] ∧ H p = some (.lst ys) ∧ ∀ l, H l = none → Q (.ref l) (upd H l (.lst ys))
def rLstT : List V → Hp → VK → Prop := fun xs H Q => ∃ p ys, xs = [.ref p] ∧ H p = some (.tup ys) ∧ ∀ l, H l = none → Q (.ref l) (upd H l (.lst ys))
theorem list_L : CallR X (.type "list") rLstL := CallR.imp call_list_of fun xs H Q ⟨p, ys, e, h, q⟩ => ⟨p, ys, e, .inl (.inl (.inl h)), q⟩
theorem list_T : CallR X (.type "list") rLstT := CallR.imp call_list_of fun xs H Q ⟨p, ys, e, h, q⟩ => ⟨p, ys, e, .inr (.inl (.inl h)), q⟩
/-- all(xs), any(xs) of truth values -/
def rAllL : List V → Hp → VK → Prop := fun vs H Q => ∃ (a : Addr) (bs : List Bool), vs = [V.ref a] ∧ H a = some (.lst (bs.map V.bl)) ∧ Q (.bl (bs.all id)) H
def rAnyL : List V → Hp → VK → Prop := fun vs H Q => ∃ (a : Addr) (bs : List Bool), vs = [V.ref a] ∧ H a = some (.lst (bs.map V.bl)) ∧ Q (.bl (bs.any id)) H
theorem all_L (hc : X.calm = true) : CallR X (.builtin "all") rAllL := CallR.imp (cr_all hc) fun xs H Q ⟨p, ys, e, h, q⟩ => ⟨p, ys, e, .inl (.inl h), q⟩
theorem any_L (hc : X.calm = true) : CallR X (.builtin "any") rAnyL := CallR.imp (cr_any hc) fun xs H Q ⟨p, ys, e, h, q⟩ => ⟨p, ys, e, .inl (.inl h), q⟩
/-- s * n -/
def rMulS : R2 := fun x y H Q => ∃ z n, x = .str z ∧ y = .int n ∧ 0 ≤ n ∧ n ≤ 1000000 ∧ z.length * n.toNat ≤ 1000000 ∧ Q (.str (Txt.mul z n)) H
theorem mulOk_of {z : Str} {n : Int} (h0 : 0 ≤ n) (h : z.length * n.toNat ≤ 1000000) (hn : z.length ≠ 0 → n ≤ 1000000) (h63 : n < 2 ^ 63) : MulOk z n := by
  refine ⟨?_, fun h1 h2 => ?_, fun h1 h2 => ?_⟩
  · have a : ¬ n < -(2 ^ 63 : Int) := by omega
    have b : ¬ n ≥ 2 ^ 63 := by omega
    simp only [decide_eq_false a, decide_eq_false b, Bool.or_self]
  · simp only [Bool.or_eq_false_iff, beq_eq_false_iff_ne] at h2
    have hz := hn h2.2
    have hl : z.length ≤ 1000000 := Nat.le_trans (Nat.le_mul_of_pos_right _ (by omega)) h
    have : (2 ^ 63 - 1) / n ≥ 1000000 := by
      apply (Int.le_ediv_iff_mul_le (by omega)).mpr
      have : 1000000 * n ≤ 1000000 * 1000000 := Int.mul_le_mul_of_nonneg_left hz (by decide)
      omega
    omega
  · unfold Builtin.Str.tooLong
    rw [decide_eq_false_iff_not, sizeLine_eq]
    omega
theorem op_mul_str : OpR X (binaryOp .Mult) rMulS := by
  intro pins s σ H x y v u Q I rx ry h
  obtain ⟨z, n, rfl, rfl, h0, h1, hl, q⟩ := h
  obtain ⟨t, rfl⟩ := rx
  obtain ⟨t', rfl⟩ := ry
  exact SB.mul (mulOk_of h0 hl (fun _ => h1) (by omega)) fun t' k => ⟨.str (Txt.mul z n), H, I.tok _, ⟨_, rfl⟩, q⟩
end
/-! ### for i, c in enumerate(text) -/
def Ites (z : Str) : It :=
  ⟨fun i _ => i < z.cps.size, fun i H v H' => ∃ T c, v = .ref T ∧ H T = none ∧ H' = upd H T (.tup [.int (i : Nat), .str ⟨#[c]⟩]) ∧ z.cps[i]? = some c, fun i _ => z.cps.size ≤ i⟩
theorem strDraws {P : Program} {w : World} {A : Around} (hh : A.handled = none) (it : Addr) (x : Str) (t : Tok) : Draws P w A it [it] x.cps.size (fun i v => ∃ c u, x.cps[i]? = some c ∧ v = .str ⟨#[c]⟩ u) (fun i h => h.IsStrIter it (strIterType x) x t i) := by
  have e : strIterType x = "str_ascii_iterator" ∨ strIterType x = "str_iterator" := by
    unfold strIterType
    split
    · exact .inl rfl
    · exact .inr rfl
  rcases e with e | e
  · rw [e]; exact Draws.strAscii hh it x t
  · rw [e]; exact Draws.strWide hh it x t
theorem turn_enumS {P : Program} {w : World} {K : PySem.W.Frag} {elts : List Expr} {kk : Nat} {tpos : Pos} (x : Str) (t : Tok) (e it : Addr) :
    Turn P w K (.Tuple elts kk tpos) (Ites x) [e, it] e (fun i h => (∃ old, IsEnum h e it ((i : Nat) : Int) old) ∧ h.IsStrIter it (strIterType x) x t i ∧ i ≤ x.cps.size ∧ e ≠ it) where
  mem := by simp
  obj := fun i h st b hb => by
    obtain ⟨⟨old, he⟩, ⟨o, ho, hc, hd⟩, _⟩ := st
    have e' : b = e ∨ b = it := by simpa using hb
    rcases e' with z | z
    · rw [z]; exact ⟨_, he, fun v q => nomatch q⟩
    · rw [z]; exact ⟨o, ho, fun v q => by rw [hd] at q; cases q⟩
  keep := fun i h h' st k => let ⟨⟨old, he⟩, ⟨o, ho, hr⟩, hi, hne⟩ := st; ⟨⟨old, k e (by simp) _ he⟩, ⟨o, k it (by simp) o ho, hr⟩, hi, hne⟩
  item := by
    intro X hP hw hK hc i pins s σ H E I hf st hg
    subst hP hw hK
    obtain ⟨⟨old, he⟩, hit, hi, hne⟩ := st
    have hel : e < s.heap.objs.size := Heap.lt_size he
    have hil : it < s.heap.objs.size := by obtain ⟨_, q, _⟩ := hit; exact Heap.lt_size q
    have D := strDraws (P := X.prog) (w := X.w) (A := X.A.in1) (show X.A.in1.handled = none from I.ok.hd hc) it x t
    refine wpAny_pyNext_enum_itemD D he hit hg hne (by simpa using hne) fun u h' tk hu ho hit' hT hsz hk => ?_
    obtain ⟨c, tc, hcx, rfl⟩ := hu
    refine ⟨_, rfl, wpAny_letOwnedTupleGo_enum (s := { s with heap := h', toks := tk + 1 }) ho fun h'' he' sb => ?_⟩
    have hT2 : h''.get? s.heap.objs.size = some { cls := .type "tuple", data := .seq #[.int i tk, .str ⟨#[c]⟩ tc] } := (sb.2 _ (Nat.ne_of_gt hel)).trans hT
    have new : ObjOk X.prog X.w (upd H s.heap.objs.size (.tup [.int (i : Nat), .str ⟨#[c]⟩])) h'' s.heap.objs.size (.tup [.int (i : Nat), .str ⟨#[c]⟩]) :=
      ⟨by show 2 ≤ sizeLine; decide, [.int i tk, .str ⟨#[c]⟩ tc], .cons ⟨_, rfl⟩ (.cons ⟨_, rfl⟩ .nil), ⟨_, hT2, rfl, _, rfl⟩⟩
    have I1 : Inv X pins σ (upd H s.heap.objs.size (.tup [.int (i : Nat), .str ⟨#[c]⟩])) { s with heap := h'', toks := tk + 1 } :=
      I.turnedNew (ch := [e, it]) (fun b ob hb q => (sb.2 b (fun z => hb (by simp [z]))).trans (hk b ob (fun z => hb (by simp [z])) (fun z => hb (by simp [z])) q)) hf (Nat.le_refl _) new
    refine ⟨.ref s.heap.objs.size, _, I1, rfl, ⟨_, c, rfl, I.hok.fresh (Nat.le_refl _), rfl, hcx⟩, ⟨⟨.str ⟨#[c]⟩ tc, ?_⟩, ?_, hg, hne⟩, fun b hb => ?_⟩
    · have e1 : ((i + 1 : Nat) : Int) = (i : Int) + 1 := by omega
      rw [e1]; exact he'
    · obtain ⟨o, ho2, hr⟩ := hit'
      exact ⟨o, (sb.2 it (Ne.symm hne)).trans ho2, hr⟩
    · have hb' : b < s.heap.objs.size := by
        have e' : b = e ∨ b = it := by simpa using hb
        rcases e' with z | z
        · rw [z]; exact hel
        · rw [z]; exact hil
      rw [upd_ne (Nat.ne_of_lt hb')]
      exact (hf b hb).1
  done := by
    intro X hP hw hK hc i pins s σ H E I hf st hg
    subst hP hw hK
    obtain ⟨⟨old, he⟩, hit, hi, hne⟩ := st
    have ei : i = x.cps.size := Nat.le_antisymm hi hg
    subst ei
    obtain ⟨f0, f1, f2, f3, f4, f5⟩ := hf it (by simp)
    have D := strDraws (P := X.prog) (w := X.w) (A := X.A.in1) (show X.A.in1.handled = none from I.ok.hd hc) it x t
    exact wpAny_pyNext_enum_endD D he hit fun h' eb => ⟨rfl, I.turned (t' := s.toks) (fun b o hb q => eb b o hb q) f0 f1 f3 f4 f5⟩
  self := fun A i s Q E st h => let ⟨⟨_, he⟩, _⟩ := st; wpAny_pyIter_enum he h
def iEnumS (ta : TA) : TI := fun σ H R => ta σ H fun vs H1 => ∃ z, vs = [.str z] ∧ R (Ites z) H1
theorem pi_enumS {X : Cx} {e : Expr} {ta : TA} {p pos tpos : Pos} {elts : List Expr} {kk : Nat} (hg : Gl X "enumerate") (hm : X.mg "enumerate" = none) (ha : PA X [e] ta) (hs : starEach [e] X.env = [(false, eval e X.env)] := by rfl) :
    PI X (.Tuple elts kk tpos) (.Call (.Name "enumerate" p) [e] [] pos) (iEnumS ta) := by
  refine ⟨fun pins s σ H R I h => ?_⟩
  refine Call_ (ld_blt I hg hm boot_enumerate (PyProof.Rows.callWith_type1 (thn (ha.run pos pins s σ H _ I h) fun us s1 ⟨vs, H1, I1, r1, q1⟩ => ?_) hs rfl))
  obtain ⟨z, ex, q⟩ := q1
  subst ex
  cases r1 with
  | cons r rr =>
    cases rr
    obtain ⟨t, rfl⟩ := r
    refine call_enumerate_str fun h' he hit hsz hk => wpAny_pyIter_enum he ?_
    have I2 : Inv X pins σ H1 { s1 with heap := h' } := I1.kept (t' := s1.toks) hk
    refine ⟨s1.heap.objs.size + 1, [s1.heap.objs.size + 1, s1.heap.objs.size], _, _, H1, rfl, I2, turn_enumS z t (s1.heap.objs.size + 1) s1.heap.objs.size, ⟨⟨.none, he⟩, hit, Nat.zero_le _, Nat.succ_ne_self _⟩, fun b hb => ?_, q⟩
    have e' : b = s1.heap.objs.size + 1 ∨ b = s1.heap.objs.size := by simpa using hb
    have hle : s1.heap.objs.size ≤ b := by
      rcases e' with z | z
      · rw [z]; exact Nat.le_add_right _ _
      · rw [z]; exact Nat.le_refl _
    exact I1.fpOk hle (I1.hok.fresh hle)
/-- the loop over enumerate(text), by an invariant -/
theorem for_enumS {z : Str} {g : TG} {tb : TS} {D : Ends} {σ : L2.St} {H1 : Hp} (Pv : Nat → L2.St → Hp → Prop) (h0 : Pv 0 σ H1)
    (hs : ∀ i c T σ H, z.cps[i]? = some c → Pv i σ H → H T = none → g (.ref T) σ (upd H T (.tup [.int (i : Nat), .str ⟨#[c]⟩])) fun σ' H' => tb { nx := fun σ H => Pv (i + 1) σ H, rt := D.rt, bk := D.nx, ct := fun σ H => Pv (i + 1) σ H } σ' H')
    (hd : ∀ σ H, Pv z.cps.size σ H → D.nx σ H) : ∃ W : Nat → Nat → L2.St → Hp → Prop, (∃ m, W 0 m σ H1) ∧ ∀ i m σ H, W i m σ H →
      ((Ites z).stop i H ∧ D.nx σ H) ∨ ((Ites z).go i H ∧ ∃ N : L2.St → Hp → Prop, (∀ σ' H', N σ' H' → ∃ m', m' < m ∧ W (i + 1) m' σ' H') ∧ ∀ x H', (Ites z).yld i H x H' → g x σ H' fun σ2 H2 => tb { nx := N, rt := D.rt, bk := D.nx, ct := N } σ2 H2) := by
  refine ⟨fun i m σ H => m = z.cps.size - i ∧ i ≤ z.cps.size ∧ Pv i σ H, ⟨_, rfl, Nat.zero_le _, h0⟩, ?_⟩
  rintro i m σ H ⟨rfl, hi, p⟩
  by_cases hlt : i < z.cps.size
  · refine .inr ⟨hlt, fun σ' H' => Pv (i + 1) σ' H', fun σ' H' q => ⟨z.cps.size - (i + 1), by omega, rfl, hlt, q⟩, fun x H' hy => ?_⟩
    obtain ⟨T, c, rfl, nT, rfl, hc⟩ := hy
    exact hs i c T σ H hc p nT
  · have ei : i = z.cps.size := by omega
    subst ei
    exact .inl ⟨Nat.le_refl _, hd σ H p⟩
end Fx
/-! == of flat lists; isinstance of built-in classes -/
namespace Fx
open PySem PySem.Spec PyProof.Rows L2
/-- None, an int, a text: two of these are equal in Python just if they are the same -/
def isF : V → Bool
  | .non => true
  | .int _ => true
  | .str x => PyData.strOk x
  | _ => false
def datV : V → PyData
  | .non => .none
  | .int i => .int i
  | .str x => .str x
  | _ => .none
theorem eqv_dat {x y : V} (hx : isF x = true) (hy : isF y = true) : PyData.eqv (datV x) (datV y) = decide (x = y) := by
  cases x <;> cases y <;> first | (exfalso; revert hx; simp [isF]; done) | (exfalso; revert hy; simp [isF]; done) | (simp [datV, PyData.eqv]; done) | (simp only [datV, PyData.eqv, V.int.injEq, V.str.injEq]; exact Bool.eq_iff_iff.mpr (by simp)) 
theorem eqvAll_dat : ∀ {xs ys : List V}, xs.all isF = true → ys.all isF = true → PyData.eqvAll (xs.map datV) (ys.map datV) = decide (xs = ys)
  | [], [], _, _ => by simp [PyData.eqvAll]
  | [], _ :: _, _, _ => by simp [PyData.eqvAll]
  | _ :: _, [], _, _ => by simp [PyData.eqvAll]
  | x :: xs, y :: ys, hx, hy => by
    simp only [List.all_cons, Bool.and_eq_true] at hx hy
    simp only [List.map_cons, PyData.eqvAll, eqv_dat hx.1 hy.1, eqvAll_dat hx.2 hy.2]
    by_cases e : x = y <;> simp [e]
theorem dp_dat {K : PySem.W.Frag} {H : Hp} {x : V} (hx : isF x = true) : Dp K H x (datV x) := by
  cases x <;> first | (exfalso; revert hx; simp [isF]; done) | exact .non | exact .int _ | exact .str _
theorem dpAll_dat {K : PySem.W.Frag} {H : Hp} : ∀ {xs : List V}, xs.all isF = true → DpAll K H xs (xs.map datV)
  | [], _ => .nil
  | x :: xs, hx => by
    simp only [List.all_cons, Bool.and_eq_true] at hx
    exact .cons (dp_dat hx.1) (dpAll_dat hx.2)
theorem lay_flat : ∀ {xs : List V}, xs.all isF = true → PyData.canLayAll0 (xs.map datV) = true ∧ PyData.depthAll (xs.map datV) = 0
  | [], _ => by simp [PyData.canLayAll0, PyData.depthAll]
  | x :: xs, hx => by
    simp only [List.all_cons, Bool.and_eq_true] at hx
    obtain ⟨h1, h2⟩ := lay_flat hx.2
    have h3 : PyData.canLay0 (datV x) = true ∧ PyData.depth (datV x) = 0 := by
      have hx1 := hx.1
      cases x <;> first | (exfalso; revert hx1; simp [isF]; done) | exact ⟨by simpa [datV, PyData.canLay0, isF] using hx1, by simp [datV, PyData.depth]⟩
    simp [PyData.canLayAll0, PyData.depthAll, h1, h2, h3.1, h3.2]
theorem shaped_flat {xs : List V} (hx : xs.all isF = true) : SeqAt.shaped (.list (xs.map datV)) = true := by
  obtain ⟨h1, h2⟩ := lay_flat hx
  simp [SeqAt.shaped, PyData.canLay0, PyData.depth, h1, h2]
def rEqL : R2 := fun x y H Q => ∃ p q xs ys, x = .ref p ∧ y = .ref q ∧ H p = some (.lst xs) ∧ H q = some (.lst ys) ∧ xs.all isF = true ∧ ys.all isF = true ∧ Q (.bl (decide (xs = ys))) H
theorem eq_LL {X : Cx} (hu : X.A.units + 64 < cLine) : OpR X (compareOp .Eq) rEqL := by
  intro pins s σ H x y v u Q I rx ry h
  obtain ⟨p, q, xs, ys, rfl, rfl, hp, hq, fx, fy, k⟩ := h
  refine op_eqD hu pins s σ H _ _ v u Q I rx ry ⟨.list (xs.map datV), .list (ys.map datV), .lst (.inl (.inl hp)) (dpAll_dat fx), .lst (.inl (.inl hq)) (dpAll_dat fy), shaped_flat fx, shaped_flat fy, ?_⟩
  rw [PyData.eqv, eqvAll_dat fx fy]
  exact k
/-- what built-in type a value is of -/
def tyv (H : Hp) : V → Option String
  | .non => some "NoneType"
  | .bl _ => some "bool"
  | .int _ => some "int"
  | .str _ => some "str"
  | .byt _ => some "bytes"
  | .ref a => (match H a with
    | some (.lst _) => some "list"
    | some (.tup _) => some "tuple"
    | some (.dK _) => some "dict"
    | some (.dT _) => some "dict"
    | _ => none)
  | _ => none
theorem tyv_ok {K : PySem.W.Frag} {H : Hp} {x : V} {t : String} (h : tyv H x = some t) : TyX K H x (.type t) := by
  cases x with
  | non => cases h; exact .base .non
  | bl b => cases h; exact .base (.bl b)
  | int i => cases h; exact .base (.int i)
  | str z => cases h; exact .base (.str z)
  | byt b => cases h; exact .byt b
  | flt b => cases h
  | ty n => cases h
  | ref a =>
    simp only [tyv] at h
    cases e : H a with
    | none => simp only [e] at h; cases h
    | some o =>
      simp only [e] at h
      cases o <;> first | (cases h; done) | (cases h; exact .base (.lst e)) | (cases h; exact .base (.tup e)) | (cases h; exact .base (.dK e)) | (cases h; exact .base (.dT e))
section
variable {H : Hp} {a : Addr} {xs : List V} {kvs : List (Key × V)}
theorem tyv_non : tyv H .non = some "NoneType" := rfl
theorem tyv_bl {b : Bool} : tyv H (.bl b) = some "bool" := rfl
theorem tyv_int {i : Int} : tyv H (.int i) = some "int" := rfl
theorem tyv_str {z : Str} : tyv H (.str z) = some "str" := rfl
theorem tyv_lst (h : H a = some (.lst xs)) : tyv H (.ref a) = some "list" := by simp only [tyv, h]
theorem tyv_tup (h : H a = some (.tup xs)) : tyv H (.ref a) = some "tuple" := by simp only [tyv, h]
theorem tyv_dK (h : H a = some (.dK kvs)) : tyv H (.ref a) = some "dict" := by simp only [tyv, h]
end
def rIsB : List V → Hp → VK → Prop := fun xs H Q => ∃ x n, xs = [x, .ty n] ∧ ∃ t, tyv H x = some t ∧ ∃ b, kitB t n = some b ∧ Q (.bl b) H
theorem is_B {X : Cx} : CallR X (.builtin "isinstance") rIsB := CallR.imp call_isi fun xs H Q ⟨x, n, e, t, ht, b, hb, q⟩ => ⟨x, .ty n, .type t, .type n, b, e, .ty n, tyv_ok ht, kit_ty hb, q⟩
theorem kb_int_int : kitB "int" "int" = some true := by decide +kernel
theorem kb_int_bool : kitB "int" "bool" = some false := by decide +kernel
theorem kb_bool_int : kitB "bool" "int" = some true := by decide +kernel
theorem kb_bool_bool : kitB "bool" "bool" = some true := by decide +kernel
theorem kb_str_str : kitB "str" "str" = some true := by decide +kernel
theorem kb_int_str : kitB "int" "str" = some false := by decide +kernel
theorem kb_bool_str : kitB "bool" "str" = some false := by decide +kernel
theorem kb_none_str : kitB "NoneType" "str" = some false := by decide +kernel
theorem kb_list_str : kitB "list" "str" = some false := by decide +kernel
theorem kb_tuple_str : kitB "tuple" "str" = some false := by decide +kernel
theorem kb_dict_str : kitB "dict" "str" = some false := by decide +kernel
theorem kb_tuple_tuple : kitB "tuple" "tuple" = some true := by decide +kernel
theorem kb_list_list : kitB "list" "list" = some true := by decide +kernel
end Fx
/-! A def whose body begins with a token out (for str.replace): with cells too -/
namespace Fx
open PySem PySem.Spec PyProof.Rows L2
section
variable {M : Model} {A : Around} {E : Value → Shared → Prop} {s₀ s : Shared} {m cm : Str → Option Value} {env : Env}
theorem stLCT {n : Str} {v : Value} {Q : Unit → Shared → Prop} (x : InCallC s₀ env.locals m env.cells cm s) (hk : env.scope.kind = .function) (hl : env.kindOf n = some .local)
    (h : ∀ s', InCallC s₀ env.locals (fun y => if y = n then some v else m y) env.cells cm s' → 1 ≤ s'.toks → Q () s') : wpAny M A (storeName env n v) Q E s := by
  refine wpAny_storeName_local hl x.toInCall.ns (fun h' hn' hs' => h _ ⟨⟨?_, hn', fun b o e => ?_, x.toInCall.fresh⟩, fun k c hc => ?_, x.apart, x.above⟩ (Nat.le_add_left _ _)) (by rw [hk]; rfl)
  · obtain ⟨h₁, tk, rfl⟩ := x.toInCall.same
    exact ⟨h', _, rfl⟩
  · exact hs'.extBut b o (Nat.ne_of_lt (Nat.lt_of_lt_of_le (Heap.lt_size e) x.toInCall.fresh)) (x.toInCall.keep b o e)
  · exact (x.cell k c hc).sameBut hs' (Nat.ne_of_gt (x.above k c (mem_of_lookup hc)))
theorem bindParamsT (f : Str × Value → PUnit → Sem (ForInStep PUnit)) (hf : ∀ n v u, f (n, v) u = (do storeName env n v; pure (.yield ⟨⟩))) (hk : env.scope.kind = .function)
    (n : Str) (v : Value) (r : List (Str × Value)) (hl : env.kindOf n = some .local) (m cm : Str → Option Value) (s : Shared) (Q : PUnit → Shared → Prop) (x : InCallC s₀ env.locals m env.cells cm s)
    (hkind : ∀ y ∈ r, env.kindOf y.1 = some .local ∨ (env.kindOf y.1 = some .cell ∧ (env.cells.lookup y.1).isSome = true))
    (h : ∀ s', InCallC s₀ env.locals (bindL env.kindOf ((n, v) :: r) m) env.cells (bindC env.kindOf ((n, v) :: r) cm) s' → 1 ≤ s'.toks → Q ⟨⟩ s') : wpAny M A (forIn ((n, v) :: r) ⟨⟩ f) Q E s := by
  rw [List.forIn_cons, hf]
  refine wpAny_bind (wpAny_bind (stLCT x hk hl fun s' x' ht => wpAny_pure ?_))
  refine wpAny_with_toks ht (wpAny_bindParams f hf hk r _ _ s' (fun u s'' => 1 ≤ s''.toks → Q u s'') x' hkind fun s'' x'' ht' => h s'' ?_ ht')
  unfold bindL bindC
  rw [if_pos hl, if_pos hl]
  exact x''
end
section
variable {M : Model} {A : Around} {E : Value → Shared → Prop} {s : Shared}
theorem newFunctionEnvT {scope : Scope} {globals : Addr} {n : Str} {v : Value} {r : List (Str × Value)} {qual : Str} {func : Option Addr} {code : Value} {builtins : Addr} {Q : Env → Shared → Prop}
    (hk : scope.kind = .function) (hl : scope.names.lookup n = some .local)
    (hkind : ∀ x ∈ r, scope.names.lookup x.1 = some .local ∨ (scope.names.lookup x.1 = some .cell ∧ ((cellsFrom (s.heap.objs.size + 1) scope.names []).lookup x.1).isSome = true))
    (hQ : ∀ env, env = newEnv scope s.heap.objs.size globals (cellsFrom (s.heap.objs.size + 1) scope.names []) qual func code none builtins →
      ∀ s', InCallC s env.locals (bindL env.kindOf ((n, v) :: r) fun _ => none) env.cells (bindC env.kindOf ((n, v) :: r) fun _ => none) s' → 1 ≤ s'.toks → Q env s') :
    wpAny M A (newFunctionEnv scope globals [] ((n, v) :: r) qual func code none builtins) Q E s := by
  simp only [newFunctionEnv, Option.isSome_none, Bool.false_eq_true, if_false]
  refine wpAny_bind (wpAny_alloc ?_)
  refine wpAny_bind (wpAny_layCells _ (fun name kind cells => by cases hkc : kind == NameKind.cell <;> simp [hkc]) _ _ _ _ ?_)
  have ok := cellsFrom_ok scope.names (s.heap.push { cls := .type "frame", data := .dict #[] }) (s.heap.objs.size + 1) [] ⟨fun _ _ hm => (nomatch hm), List.Pairwise.nil⟩ (by rw [Heap.size_push]; exact Nat.le_refl _)
  rw [Heap.size_push] at ok
  rw [show ({ s with heap := s.heap.push { cls := .type "frame", data := .dict #[] } } : Shared).heap.objs.size = s.heap.objs.size + 1 from Heap.size_push ..]
  refine wpAny_bind (bindParamsT (s₀ := s) (env := newEnv scope s.heap.objs.size globals (cellsFrom (s.heap.objs.size + 1) scope.names []) qual func code none builtins)
    _ (fun _ _ _ => rfl) hk n v r hl (fun _ => none) (fun _ => none) _ _
    ⟨⟨⟨_, _, rfl⟩, (Heap.Ns.new s.heap (.type "frame")).keeps (pushCells_keeps _ _), fun b o e => pushCells_keeps _ _ b o (Heap.get?_push_of_some _ e), Nat.le_refl _⟩,
      fun n c hc => (ok.empty n c (mem_of_lookup hc)).1, ok.apart, fun n c hm => (ok.empty n c hm).2⟩
    hkind fun s' x ht => wpAny_pure (hQ _ rfl s' x ht))
end
/-- a def's body, a token out when it begins; its first parameter is a local -/
theorem fn_ofTC {CX : CXT} {P : Program} {w : World} {K : PySem.W.Frag} {mg : Str → Option Value} {base : Heap} {k : Nat} {f : Addr} {name qual : Str} {params : Arguments} {body : List Stmt} {scope : Scope} {dV kV doc pm cdv ct oc : Value} {an od : Option Addr}
    {osl : Array (Option Value)} {N ps : List Str} {x0 : Str} {sp : Sp} (lk : K.lookup f = some ⟨oc, od, .func (PySem.W.fnOf name qual params body scope dV kV doc pm an cdv ct), osl⟩) (hcd : PySem.W.codeIn K cdv qual = true) (S : FnScope N (x0 :: ps) scope)
    (h0 : scope.names.lookup x0 = some .local) (len : ∀ vs H Q E, sp vs H Q E → vs.length = (x0 :: ps).length)
    (hbody : ∀ (A : Around) (outer : List Env) (s : Shared) (H : Hp) (vs : List V) (Q : VK) (E : XK), Room k (A.deeper (envOfC qual scope s.heap.objs.size f cdv)) → sp vs H Q E →
      ∃ t, PSsT (cxOf CX P w K mg base N qual scope f cdv A outer s H E) body t ∧ t { nx := fun _ H' => Q .non H', rt := Q } (L2.start N vs) H) :
    FnOk P w K mg base CX (k + 1) f (PySem.W.fnOf name qual params body scope dV kV doc pm an cdv ct) (x0 :: ps) sp := by
  refine ⟨len, fun A outer s H args us vs Q E hr e0 hb r hsp => ?_⟩
  have hl := len _ _ _ _ hsp
  have KX : K.In s.heap := e0.mod.kin.keeps fun b o e => (e0.bs b o e).1
  have lim : s.heap.NoLimit := e0.mod.nolimit.keeps fun b o e => (e0.bs b o e).1
  have hul : us.length = (x0 :: ps).length := by rw [← r.length, hl]
  obtain ⟨u0, ur, rfl⟩ : ∃ u0 ur, us = u0 :: ur := by
    cases us with
    | nil => cases hul
    | cons a b => exact ⟨a, b, rfl⟩
  have hkind : ∀ y ∈ ps.zip ur, scope.names.lookup y.1 = some .local ∨ (scope.names.lookup y.1 = some .cell ∧ ((cellsFrom (s.heap.objs.size + 1) scope.names []).lookup y.1).isSome = true) := fun ⟨n, v⟩ hy => by
    rcases S.par n (List.mem_cons_of_mem _ (List.of_mem_zip hy).1) with q | q
    · exact .inl q
    · exact .inr ⟨q, PySem.W.cellsFrom_some _ _ _ (.inl q)⟩
  refine codeAny_call_function hr.depth (KX _ _ lk) rfl S.co S.gen rfl (PySem.W.codeRec_of KX hcd) (hb _ _ _ _ ?_)
  show wpAny _ _ (newFunctionEnv scope _ [] ((x0, u0) :: ps.zip ur) _ _ _ _ _) _ _ _
  refine newFunctionEnvT S.kind h0 hkind fun env he s1 x ht => ?_
  subst he
  refine ⟨lim.keeps x.toInCall.keep, codeAny_func ?_⟩
  obtain ⟨t, hT, hq⟩ := hbody A outer s H vs Q E (hr.deeper _) hsp
  have I : Inv (cxOf CX P w K mg base N qual scope f cdv A outer s H E) [] (L2.start N vs) H s1 := inv_start S hr.hd e0 hl r x
  refine wpAny_mono (hT [] s1 (L2.start N vs) H _ ht I hq) (fun fl s' hs => ?_) fun e s' hs => hs
  have fin : ∀ {σ' : L2.St} {H' : Hp} {v : V} {u : Value}, Inv (cxOf CX P w K mg base N qual scope f cdv A outer s H E) [] σ' H' s' → RelV v u → Q v H' → CE outer P w H s Q u s' :=
    fun {σ' H' v u} J rv q => ⟨v, H', J.os, J.bare, J.base, J.hok, rv, q⟩
  cases fl with
  | ret u =>
    obtain ⟨v, σ', H', J, rv, q⟩ := hs
    exact fin J rv q
  | next =>
    obtain ⟨σ', H', J, q⟩ := hs
    exact fin (v := V.non) (u := Value.none) J rfl q
  | brk =>
    obtain ⟨_, _, _, q⟩ := hs
    exact False.elim q
  | cont =>
    obtain ⟨_, _, _, q⟩ := hs
    exact False.elim q
/-! ### tests, calls, slices with a token out -/
section
variable {X : Cx}
def PTT (X : Cx) (e : Expr) (t : TT) : Prop := ∀ (pins : List (Addr × Obj)) (s : Shared) (σ : L2.St) (H : Hp) (Q : Bool → Hp → Prop), 1 ≤ s.toks → Inv X pins σ H s → t σ H Q → wpAny (model X.prog X.w) X.A (isTrue e X.env (eval e X.env)) (TP X pins σ Q) X.xe s
def PWT (X : Cx) (e : Expr) (t : TT) : Prop := ∀ (whole : Sem Value) (pins : List (Addr × Obj)) (s : Shared) (σ : L2.St) (H : Hp) (Q : Bool → Hp → Prop), 1 ≤ s.toks → Inv X pins σ H s → t σ H Q → wpAny (model X.prog X.w) X.A (isTrue e X.env whole) (TP X pins σ Q) X.xe s
theorem PWT.pt {e : Expr} {t : TT} (h : PWT X e t) : PTT X e t := h _
theorem ptt_val {e : Expr} {t : TE} (h : PET X e t) (he : ∀ whole, isTrue e X.env whole = (do let v ← whole; standAt e.pos; holding [v] (truthy v)) := by intro _; rfl) : PTT X e (tB t) := by
  intro pins s σ H Q ht I hw
  refine isTrue_plain (thn (h pins s σ H _ ht I hw) fun v s1 ⟨x, H1, I1, r1, q1⟩ => ?_) (he _)
  obtain ⟨d, rfl, q⟩ := q1
  cases r1
  exact wpAny_truthy_bool ⟨H1, I1, q⟩
theorem ptt_not {a : Expr} {tA : TT} {pos : Pos} (ha : PTT X a tA) : PTT X (.UnaryOp .Not a pos) (tNot tA) := by
  intro pins s σ H Q ht I h
  exact isTrue_not (ha pins s σ H (fun c H1 => Q (!c) H1) ht I h)
theorem pwt_or1 {a : Expr} {tA : TT} {pos : Pos} (ha : PTT X a tA) : PWT X (.BoolOp .Or [a] pos) tA := by
  intro wh pins s σ H Q ht I h
  refine isTrue_or (thn (ha pins s σ H Q ht I h) fun c s1 e => ?_)
  cases c with
  | false => exact isTrue_or_nil e
  | true => exact e
theorem pwt_or {a b : Expr} {rest : List Expr} {tA tB' : TT} {pos : Pos} (ha : PT X a tA) (hb : PWT X (.BoolOp .Or (b :: rest) pos) tB') : PWT X (.BoolOp .Or (a :: b :: rest) pos) (tOr tA tB') := by
  intro wh pins s σ H Q ht I h
  refine isTrue_or (wpAny_mono (wpAny_toks_of ht (ha.run pins s σ H _ I h)) (fun c s1 z => ?_) fun _ _ z => z.2)
  obtain ⟨ht1, H1, I1, q1⟩ := z
  cases c with
  | true => exact ⟨H1, I1, q1⟩
  | false => exact hb wh pins s1 σ H1 Q ht1 I1 q1
theorem pst_ifT {c : Expr} {a b : List Stmt} {tc : TT} {t u : TS} {pos : Pos} (hc : PTT X c tc) (ha : PSs X a t) (hb : PSs X b u) : PST X (.If c a b pos) (tIfS tc t u) := by
  intro pins s σ H D ht I h
  refine wpAny_If (thn (hc pins s σ H _ ht I h) fun d s1 ⟨H1, I1, q1⟩ => ?_)
  cases d with
  | true => exact ha.run pins s1 σ H1 D I1 q1
  | false => exact hb.run pins s1 σ H1 D I1 q1
theorem psst_s {st : Stmt} {rest : List Stmt} {t u : TS} (h1 : PS X st t) (h2 : PSsT X rest u) : PSsT X (st :: rest) (tSeq t u) := psst_cons (PST.of h1) h2
def noSt : Stmt := .Pass ⟨0, 0, 0, 0⟩
theorem drop_at : ∀ (l : List Stmt) (i : Nat), i < l.length → l.drop i = l.getD i noSt :: l.drop (i + 1)
  | [], i, h => absurd h (Nat.not_lt_zero _)
  | a :: l, 0, _ => rfl
  | a :: l, i + 1, h => drop_at l i (Nat.lt_of_succ_lt_succ h)
/-- PSsT behind a structure: a def that unfolds to a ∀ is walked by the elaborator after every application -/
structure PZ (X : Cx) (l : List Stmt) (t : TS) : Prop where
  run : PSsT X l t
structure PZ1 (X : Cx) (st : Stmt) (t : TS) : Prop where
  run : PST X st t
theorem PZ.of {l : List Stmt} {t : TS} (h : PSs X l t) : PZ X l t := ⟨PSsT.of h⟩
theorem pz_at1 {l : List Stmt} {i : Nat} {t u : TS} (h : i < l.length) (h1 : PZ1 X (l.getD i noSt) t) (h2 : PZ X (l.drop (i + 1)) u) : PZ X (l.drop i) (tSeq t u) := by
  refine ⟨?_⟩
  rw [drop_at l i h]
  exact psst_cons h1.run h2.run
theorem pz_at {l : List Stmt} {i : Nat} {t u : TS} (h : i < l.length) (h1 : PS X (l.getD i noSt) t) (h2 : PZ X (l.drop (i + 1)) u) : PZ X (l.drop i) (tSeq t u) := pz_at1 h ⟨PST.of h1⟩ h2
theorem pz_at0 {l : List Stmt} {t : TS} (h : PZ X (l.drop 0) t) : PZ X l t := h
theorem pz_ifT {c : Expr} {a b : List Stmt} {tc : TT} {t u : TS} {pos : Pos} (hc : PTT X c tc) (ha : PSs X a t) (hb : PSs X b u) : PZ1 X (.If c a b pos) (tIfS tc t u) := ⟨pst_ifT hc ha hb⟩
theorem pss_at {l : List Stmt} {i : Nat} {t u : TS} (h : i < l.length) (h1 : PS X (l.getD i noSt) t) (h2 : PSs X (l.drop (i + 1)) u) : PSs X (l.drop i) (tSeq t u) := by
  rw [drop_at l i h]
  exact pss_cons h1 h2
theorem pss_at0 {l : List Stmt} {t : TS} (h : PSs X (l.drop 0) t) : PSs X l t := h
theorem pet_slice {e : Expr} {te : TE} {lo hi : Option Expr} {tl th : TO} {p2 pos : Pos} {r : V → Option Int → Option Int → Hp → VK → Prop} (hr : SlR X r) (he : PET X e te) (hl : PO X lo tl) (hu : PO X hi th) : PET X (.Subscript e (.Slice lo hi none p2) pos) (tSl r te tl th) := by
  intro pins s σ H Q ht I h
  refine Subscript_ (thn (he pins s σ H _ ht I h) fun v s1 ⟨x, H1, I1, r1, q1⟩ => ?_)
  refine wpAny_Slice (thn (hl.run pins s1 σ H1 _ I1 q1) fun vl s2 ⟨l, H2, I2, pl, q2⟩ => thn (hu.run pins s2 σ H2 _ I2 q2) fun vu s3 ⟨u, H3, I3, pu, q3⟩ => ?_)
  rw [evalPart_none]
  refine wpAny_pure ?_
  have I4 : Inv X pins σ H3 { s3 with heap := s3.heap.push { cls := .type "slice", data := .fields #[vl, vu, .none] } } := I3.kept (t' := s3.toks) fun b ob q => Heap.get?_push_of_some _ q
  obtain ⟨T, id, hT, ht, hg⟩ := hr pins { s3 with heap := s3.heap.push { cls := .type "slice", data := .fields #[vl, vu, .none] } } σ H3 x v vl vu l u s3.heap.objs.size Q I4 r1 (Heap.IsSliceOf.new ..) pl pu q3
  show wpAny (model X.prog X.w) X.A (subscriptTail e (.Slice lo hi none p2) v (.ref s3.heap.objs.size)) (EP X pins σ Q) X.xe { s3 with heap := s3.heap.push { cls := .type "slice", data := .fields #[vl, vu, .none] } }
  exact tail_any (ops := [.ref s3.heap.objs.size, v]) ht hT hg (by with_unfolding_all rfl)
theorem pet_cal {x : Str} {ps : List Str} {sp : Sp} {k : Nat} {CX : CXT} {E : XK} {e : Expr} {es : List Expr} {t : TA} {p pos : Pos} (C : Cal X.prog X.w X.K X.mg X.base CX k x ps sp) (hr : Room k X.A) (hx : Passes CX X E) (ha : PAT X (e :: es) t) (hg : Gl X x := by rfl) (hdb : (x == ("__debug__" : Str)) = false := by decide)
    (hs : (e :: es).all nostar = true := by rfl) : PET X (.Call (.Name x p) (e :: es) [] pos) (tCall sp [] E t) := by
  obtain ⟨f, fd, g, kp, b, F⟩ := C.ex
  simp only [List.all_cons, Bool.and_eq_true] at hs
  intro pins s σ H Q ht I h
  refine wpAny_Call_Name_kw (ld_glob I hg g ?_ hdb)
  refine PySem.W.callWith_K (h₀ := X.base) I.ok.mod.kin kp (thn (ha pos pins s σ H _ ht I h) fun us s1 ⟨vs, H1, I1, r, q⟩ => ⟨I1.kIn, ?_⟩) (star_ok hs.1) (back_ok hs.2)
  exact run_fn F hr b .nil hx I1 r q
end
section
variable {P : Program} {w : World} {K : PySem.W.Frag} {mg : Str → Option Value} {base : Heap} {x x0 : Str} {st : Stmt} {N ps : List Str} {k : Nat} {sp : Sp}
theorem Src.calT (S : Src K mg x st) (sc : FnScope N (x0 :: ps) (defScope st)) (bn : BindP x st (x0 :: ps)) (h0 : (defScope st).names.lookup x0 = some .local) (len : ∀ vs H Q E, sp vs H Q E → vs.length = (x0 :: ps).length)
    (hbody : ∀ (f : Addr) (cdv : Value) (A : Around) (outer : List Env) (s : Shared) (H : Hp) (vs : List V) (Q : VK) (E : XK), Room k (A.deeper (envOfC x (defScope st) s.heap.objs.size f cdv)) → sp vs H Q E →
      ∃ t, PZ (cxOf CX0 P w K mg base N x (defScope st) f cdv A outer s H E) (defBody st) t ∧ t { nx := fun _ H' => Q .non H', rt := Q } (L2.start N vs) H) : Cal P w K mg base CX0 (k + 1) x (x0 :: ps) sp := by
  obtain ⟨f, fd, g, F⟩ := S
  refine ⟨f, fd, g, F.kp, F.bindsN bn, ?_⟩
  obtain ⟨oc, od, dV, kV, doc, pm, an, cdv, ct, osl, rfl, lk, hcd, _, _⟩ := F.ex
  exact fn_ofTC lk hcd sc h0 len fun A outer s H vs Q E hr hsp => by
    obtain ⟨t, h1, h2⟩ := hbody f cdv A outer s H vs Q E hr hsp
    exact ⟨t, h1.run, h2⟩
end
/-! ### the law's own def -/
section
variable {P : Program} {w : World} {K : PySem.W.Frag} {mg : Str → Option Value} {base : Heap} {x x0 : Str} {st : Stmt} {N ps : List Str} {k : Nat} {sp : Sp} {f : Addr} {fd : FuncData}
theorem lawT (F : FunD K x x (defArgs st) (defBody st) (defScope st) [] [] f fd) (sc : FnScope N (x0 :: ps) (defScope st)) (h0 : (defScope st).names.lookup x0 = some .local) (len : ∀ vs H Q E, sp vs H Q E → vs.length = (x0 :: ps).length)
    (hbody : ∀ (f : Addr) (cdv : Value) (A : Around) (outer : List Env) (s : Shared) (H : Hp) (vs : List V) (Q : VK) (E : XK), Room k (A.deeper (envOfC x (defScope st) s.heap.objs.size f cdv)) → sp vs H Q E →
      ∃ t, PZ (cxOf CX0 P w K mg base N x (defScope st) f cdv A outer s H E) (defBody st) t ∧ t { nx := fun _ H' => Q .non H', rt := Q } (L2.start N vs) H) : FnOk P w K mg base CX0 (k + 1) f fd (x0 :: ps) sp := by
  obtain ⟨oc, od, dV, kV, doc, pm, an, cdv, ct, osl, rfl, lk, hcd, _, _⟩ := F.ex
  exact fn_ofTC lk hcd sc h0 len fun A outer s H vs Q E hr hsp => by
    obtain ⟨t, h1, h2⟩ := hbody f cdv A outer s H vs Q E hr hsp
    exact ⟨t, h1.run, h2⟩
theorem law0 (F : FunD K x x (defArgs st) (defBody st) (defScope st) [] [] f fd) (sc : FnScope N ps (defScope st)) (len : ∀ vs H Q E, sp vs H Q E → vs.length = ps.length)
    (hbody : ∀ (f : Addr) (cdv : Value) (A : Around) (outer : List Env) (s : Shared) (H : Hp) (vs : List V) (Q : VK) (E : XK), Room k (A.deeper (envOfC x (defScope st) s.heap.objs.size f cdv)) → sp vs H Q E →
      ∃ t, PSs (cxOf CX0 P w K mg base N x (defScope st) f cdv A outer s H E).nox (defBody st) t ∧ t { nx := fun _ H' => Q .non H', rt := Q } (L2.start N vs) H) : FnOk P w K mg base CX0 (k + 1) f fd ps sp := by
  refine F.ok sc len fun cdv A outer s H vs Q E hr hsp => ?_
  obtain ⟨t, h, q⟩ := hbody f cdv A outer s H vs Q E hr hsp
  exact ⟨t, h.nox, q⟩
theorem cst_int {i : Int} (h : ∃ t, mg x = some (.int i t)) : Cst mg x (.int i) := by
  obtain ⟨t, h⟩ := h
  exact ⟨_, h, ⟨t, rfl⟩⟩
theorem cst_ref {a : Addr} (h : mg x = some (.ref a)) : Cst mg x (.ref a) := ⟨_, h, rfl⟩
theorem cst_str {z : Str} (h : ∃ t, mg x = some (.str z t)) : Cst mg x (.str z) := by
  obtain ⟨t, h⟩ := h
  exact ⟨_, h, ⟨t, rfl⟩⟩
end
end Fx
/-! for i, x in enumerate(t), t a tuple; a list or a tuple -/
namespace Fx
open PySem PySem.Spec PyProof.Rows L2
open AutoSeq1 (wpAny_loadPart')
theorem enum_newT (l : Addr) (items : Array Value) (n : Nat) (dct : Option Addr) (sl : Array (Option Value)) :
    Meets (Builtin.«enumerate.__new__» ⟨[.type "enumerate", .ref l], []⟩) (fun _ R s => s.heap.get? l = some { cls := .type "tuple", dict := dct, data := .seq items n, slots := sl } ∧
      R (.ok (.ret (.ref (s.heap.push { cls := .type "tuple_iterator", data := .fields #[.ref l, .int 0 0] }).objs.size)))
        { s with heap := (s.heap.push { cls := .type "tuple_iterator", data := .fields #[.ref l, .int 0 0] }).push { cls := .type "enumerate", data := .fields #[.none, .bool false, .ref s.heap.objs.size, rawInt 0, .none, .none] } }) :=
  .of_wp fun prog w A R s h => by
    obtain ⟨hp, g, d, tk, os⟩ := s
    obtain ⟨hl, h⟩ := h
    have hsub := sub_enumerate
    have hL : Heap.IsTuple (Shared.heap ⟨hp, g, d, tk, os⟩) l items := ⟨_, hl, rfl, n, rfl⟩
    wp_walk using wpAny_loadPart' hl
    refine wpAny_stack_any fun st => wpAny_pure ?_
    split
    · rename_i c _ _ _ _ _
      cases (c == Value.type "enumerate")
      · wp_walk using wpAny_loadPart' hl, wpAny_pyIter_tuple hL
        exact ⟨_, rfl, h⟩
      · wp_walk using wpAny_loadPart' hl, wpAny_pyIter_tuple hL
        exact ⟨_, rfl, h⟩
    · wp_walk using wpAny_loadPart' hl, wpAny_pyIter_tuple hL
      exact ⟨_, rfl, h⟩
theorem call_enumT {prog : Program} {w : World} {A : Around} {E : Value → Shared → Prop} {s : Shared} {l : Addr} {items : Array Value} {Q : Value → Shared → Prop} (hL : s.heap.IsTuple l items)
    (h : ∀ h', IsEnum h' (s.heap.objs.size + 1) s.heap.objs.size 0 .none → h'.IsTupleIter s.heap.objs.size l 0 → h'.objs.size = s.heap.objs.size + 2 →
      (∀ b o, s.heap.get? b = some o → h'.get? b = some o) → Q (.ref (s.heap.objs.size + 1)) { s with heap := h' }) :
    wpAny (model prog w) A (call (.type "enumerate") [.ref l]) Q E s := by
  obtain ⟨⟨c, dct, dt, sl⟩, hl, hc, n, hd⟩ := hL
  replace hc : c = .type "tuple" := hc
  replace hd : dt = .seq items n := hd
  subst hc hd
  refine callType_new F.called_enumerate (by decide) (F.typeCall_enumerate_1 _) (F.newCall_enumerate_1 _) (fun obj => F.args_object_init_2 obj _) F.entry_enumerate_new
    (enum_newT l items n dct sl) ⟨hl, ?_⟩
  have hz : (s.heap.push { cls := .type "tuple_iterator", data := .fields #[.ref l, .int 0 0] }).objs.size = s.heap.objs.size + 1 := Heap.size_push ..
  show _ ∧ _
  rw [hz]
  have he : IsEnum ((s.heap.push { cls := .type "tuple_iterator", data := .fields #[.ref l, .int 0 0] }).push
      { cls := .type "enumerate", data := .fields #[.none, .bool false, .ref s.heap.objs.size, rawInt 0, .none, .none] }) (s.heap.objs.size + 1) s.heap.objs.size 0 .none := by
    have := Heap.get?_push_size (s.heap.push { cls := .type "tuple_iterator", data := .fields #[.ref l, .int 0 0] })
      (o := { cls := .type "enumerate", data := .fields #[.none, .bool false, .ref s.heap.objs.size, rawInt 0, .none, .none] }) rfl
    rw [hz] at this
    exact this
  exact ⟨⟨_, he, rfl⟩, h _ he ⟨_, Heap.get?_push_of_some _ (Heap.get?_push_size _ rfl), rfl, rfl⟩ (by rw [Heap.size_push, hz]) fun b o x => Heap.get?_push_of_some _ (Heap.get?_push_of_some _ x)⟩
def IteT (K : PySem.W.Frag) (a : Addr) : It :=
  ⟨fun i H => ∃ (xs : List V) (x : V), SqT K H a xs ∧ xs[i]? = some x, fun i H v H' => ∃ T x, v = .ref T ∧ H T = none ∧ H' = upd H T (.tup [.int (i : Nat), x]) ∧ ∀ xs, SqT K H a xs → xs[i]? = some x, fun i H => ∃ xs : List V, SqT K H a xs ∧ xs.length = i⟩
theorem turn_enumT {P : Program} {w : World} {K : PySem.W.Frag} {elts : List Expr} {kk : Nat} {tpos : Pos} (a e it : Addr) :
    Turn P w K (.Tuple elts kk tpos) (IteT K a) [e, it] e (fun i h => (∃ old, IsEnum h e it ((i : Nat) : Int) old) ∧ h.IsTupleIter it a i ∧ e ≠ it ∧ a ≠ e ∧ a ≠ it) where
  mem := by simp
  obj := fun i h st b hb => by
    obtain ⟨⟨old, he⟩, ⟨o, ho, hc, hd⟩, _⟩ := st
    have e' : b = e ∨ b = it := by simpa using hb
    rcases e' with z | z
    · rw [z]
      exact ⟨_, he, fun v q => nomatch q⟩
    · rw [z]
      exact ⟨o, ho, fun v q => by rw [hd] at q; cases q⟩
  keep := fun i h h' st k => let ⟨⟨old, he⟩, ⟨o, ho, hr⟩, hne⟩ := st; ⟨⟨old, k e (by simp) _ he⟩, ⟨o, k it (by simp) o ho, hr⟩, hne⟩
  item := by
    intro X hP hw hK hc i pins s σ H E I hf st hg
    subst hP hw hK
    obtain ⟨⟨old, he⟩, hit, hne, hae, hai⟩ := st
    obtain ⟨xs, x, hq, hx⟩ := hg
    obtain ⟨its, rv, p, hz⟩ := I.tuple hq
    obtain ⟨u0, hu0, ru⟩ := rv.get hx
    have hel : e < s.heap.objs.size := Heap.lt_size he
    have hil : it < s.heap.objs.size := by obtain ⟨_, q, _⟩ := hit; exact Heap.lt_size q
    have D := Draws.tuple (prog := X.prog) (w := X.w) (A := X.A.in1) (show X.A.in1.handled = none from I.ok.hd hc) it a hai its.toArray
    have hin : i < its.toArray.size := by
      have := (List.getElem?_eq_some_iff.mp hu0).1
      simpa using this
    refine wpAny_pyNext_enum_itemD D he ⟨hit, p⟩ hin hne (by simp [hne, Ne.symm hae]) fun u h' tk hu ho hit' hT hsz hk => ?_
    have eu : u = u0 := by
      have h1 : its[i]? = some u := by simpa using hu
      rw [hu0] at h1
      exact (Option.some.inj h1).symm
    subst eu
    refine ⟨_, rfl, wpAny_letOwnedTupleGo_enum (s := { s with heap := h', toks := tk + 1 }) ho fun h'' he' sb => ?_⟩
    have hT2 : h''.get? s.heap.objs.size = some { cls := .type "tuple", data := .seq #[.int i tk, u] } := (sb.2 _ (Nat.ne_of_gt hel)).trans hT
    have new : ObjOk X.prog X.w (upd H s.heap.objs.size (.tup [.int (i : Nat), x])) h'' s.heap.objs.size (.tup [.int (i : Nat), x]) :=
      ⟨by show 2 ≤ sizeLine; decide, [.int i tk, u], .cons ⟨_, rfl⟩ (.cons ru .nil), ⟨_, hT2, rfl, _, rfl⟩⟩
    have I1 : Inv X pins σ (upd H s.heap.objs.size (.tup [.int (i : Nat), x])) { s with heap := h'', toks := tk + 1 } :=
      I.turnedNew (ch := [e, it]) (fun b ob hb q => (sb.2 b (fun z => hb (by simp [z]))).trans (hk b ob (fun z => hb (by simp [z])) (fun z => hb (by simp [z])) q)) hf (Nat.le_refl _) new
    refine ⟨.ref s.heap.objs.size, _, I1, rfl, ⟨_, x, rfl, I.hok.fresh (Nat.le_refl _), rfl, fun ys hy => by rw [I.tuple_inj hy hq]; exact hx⟩, ⟨⟨u, ?_⟩, ?_, hne, hae, hai⟩, fun b hb => ?_⟩
    · have e1 : ((i + 1 : Nat) : Int) = (i : Int) + 1 := by omega
      rw [e1]
      exact he'
    · obtain ⟨⟨o, ho2, hr⟩, _⟩ := hit'
      exact ⟨o, (sb.2 it (Ne.symm hne)).trans ho2, hr⟩
    · have hb' : b < s.heap.objs.size := by
        have e' : b = e ∨ b = it := by simpa using hb
        rcases e' with z | z
        · rw [z]; exact hel
        · rw [z]; exact hil
      rw [upd_ne (Nat.ne_of_lt hb')]
      exact (hf b hb).1
  done := by
    intro X hP hw hK hc i pins s σ H E I hf st hg
    subst hP hw hK
    obtain ⟨⟨old, he⟩, hit, hne, hae, hai⟩ := st
    obtain ⟨xs, hq, hx⟩ := hg
    obtain ⟨its, rv, p, hz⟩ := I.tuple hq
    obtain ⟨f0, f1, f2, f3, f4, f5⟩ := hf it (by simp)
    have hl := rv.length
    have D := Draws.tuple (prog := X.prog) (w := X.w) (A := X.A.in1) (show X.A.in1.handled = none from I.ok.hd hc) it a hai its.toArray
    have hi : i = its.toArray.size := by
      rw [List.size_toArray]
      omega
    subst hi
    exact wpAny_pyNext_enum_endD D he ⟨hit, p⟩ fun h' eb => ⟨rfl, I.turned (t' := s.toks) (fun b o hb q => eb b o hb q) f0 f1 f3 f4 f5⟩
  self := fun A i s Q E st h => let ⟨⟨_, he⟩, _⟩ := st; wpAny_pyIter_enum he h
def iEnumT (K : PySem.W.Frag) (ta : TA) : TI := fun σ H R => ta σ H fun vs H1 => ∃ a xs, vs = [.ref a] ∧ SqT K H1 a xs ∧ R (IteT K a) H1
section
variable {X : Cx} {e : Expr} {ta : TA} {p pos tpos : Pos} {elts : List Expr} {kk : Nat}
theorem pi_enumT (hg : Gl X "enumerate") (hm : X.mg "enumerate" = none) (ha : PA X [e] ta) (hs : starEach [e] X.env = [(false, eval e X.env)] := by rfl) :
    PI X (.Tuple elts kk tpos) (.Call (.Name "enumerate" p) [e] [] pos) (iEnumT X.K ta) := by
  refine ⟨fun pins s σ H R I h => ?_⟩
  refine Call_ (ld_blt I hg hm boot_enumerate (PyProof.Rows.callWith_type1 (thn (ha.run pos pins s σ H _ I h) fun us s1 ⟨vs, H1, I1, r1, q1⟩ => ?_) hs rfl))
  obtain ⟨a, xs, ex, hq, q⟩ := q1
  subst ex
  cases r1 with
  | cons r rr =>
    cases rr
    cases r
    obtain ⟨its, rv, p', hz⟩ := I1.tuple hq
    have hla : a < s1.heap.objs.size := by
      obtain ⟨o, ho, _⟩ := p'
      exact Heap.lt_size ho
    refine call_enumT p' fun h' he hit hsz hk => wpAny_pyIter_enum he ?_
    have I2 : Inv X pins σ H1 { s1 with heap := h' } := I1.kept (t' := s1.toks) hk
    refine ⟨s1.heap.objs.size + 1, [s1.heap.objs.size + 1, s1.heap.objs.size], _, _, H1, rfl, I2, turn_enumT a (s1.heap.objs.size + 1) s1.heap.objs.size, ⟨⟨.none, he⟩, hit, Nat.succ_ne_self _, Nat.ne_of_lt (Nat.lt_succ_of_lt hla), Nat.ne_of_lt hla⟩, fun b hb => ?_, q⟩
    have e' : b = s1.heap.objs.size + 1 ∨ b = s1.heap.objs.size := by simpa using hb
    have hle : s1.heap.objs.size ≤ b := by
      rcases e' with z | z
      · rw [z]; exact Nat.le_add_right _ _
      · rw [z]; exact Nat.le_refl _
    exact I1.fpOk hle (I1.hok.fresh hle)
/-- a list or a tuple -/
def iEnumQ (K : PySem.W.Frag) (ta : TA) : TI := fun σ H R => iEnum K ta σ H R ∨ iEnumT K ta σ H R
theorem pi_enumQ (hg : Gl X "enumerate") (hm : X.mg "enumerate" = none) (ha : PA X [e] ta) (hs : starEach [e] X.env = [(false, eval e X.env)] := by rfl) :
    PI X (.Tuple elts kk tpos) (.Call (.Name "enumerate" p) [e] [] pos) (iEnumQ X.K ta) := by
  refine ⟨fun pins s σ H R I h => ?_⟩
  rcases h with h | h
  · exact (pi_enum hg hm ha hs).run pins s σ H R I h
  · exact (pi_enumT hg hm ha hs).run pins s σ H R I h
def iQ (K : PySem.W.Frag) (tl : TE) : TI := fun σ H R => iList K tl σ H R ∨ iTup K tl σ H R
theorem pi_Q {tg l : Expr} {tl : TE} (hl : PE X l tl) : PI X tg l (iQ X.K tl) := by
  refine ⟨fun pins s σ H R I h => ?_⟩
  rcases h with h | h
  · exact (pi_list hl).run pins s σ H R I h
  · exact (pi_tup hl).run pins s σ H R I h
end
/-- a list or a tuple that stands in the tracked heap -/
def Sq (H : Hp) (p : Addr) (xs : List V) : Prop := H p = some (.lst xs) ∨ H p = some (.tup xs)
theorem Sq.same {H H' : Hp} {p : Addr} {xs : List V} (h : Sq H p xs) (s : Same H H') : Sq H' p xs := by
  rcases h with h | h
  · exact .inl (s _ _ h)
  · exact .inr (s _ _ h)
section
variable {X : Cx}
def rIxQ : R2 := fun x y H Q => ∃ p i xs, x = .ref p ∧ y = .int i ∧ Sq H p xs ∧ ∃ v, atI xs i = some v ∧ Q v H
theorem ix_Q : IxR X rIxQ := by
  have h1 : IxR X rIxLt := ix_L
  have h2 : IxR X rIxTt := ix_T
  intro ve se pins s σ H x y v u Q I rx ry h hs
  obtain ⟨p, i, xs, e1, e2, hq, w, hw, q⟩ := h
  rcases hq with hq | hq
  · exact h1 ve se pins s σ H x y v u Q I rx ry ⟨p, i, xs, e1, e2, hq, w, hw, q⟩ hs
  · exact h2 ve se pins s σ H x y v u Q I rx ry ⟨p, i, xs, e1, e2, hq, w, hw, q⟩ hs
def rLenQ : List V → Hp → VK → Prop := fun vs H Q => ∃ p xs, vs = [.ref p] ∧ Sq H p xs ∧ Q (.int (xs.length : Nat)) H
theorem len_Q : CallR X (.builtin "len") rLenQ := CallR.imp call_len_seq fun vs H Q ⟨p, ys, e, h, q⟩ => ⟨p, ys, e, h.elim (fun h => .inl (.inl (.inl h))) (fun h => .inr (.inl (.inl h))), q⟩
def rTupQ : List V → Hp → VK → Prop := fun vs H Q => ∃ p xs, vs = [.ref p] ∧ Sq H p xs ∧ ∀ l H', Same H H' → H' l = some (.tup xs) → Q (.ref l) H'
theorem tup_Q : CallR X (.type "tuple") rTupQ := CallR.imp call_tuple_of fun vs H Q ⟨p, ys, e, h, q⟩ => ⟨p, ys, e, h.elim (fun h => .inl ⟨.inl (.inl h), fun l nl => q l _ (same_new nl) upd_same⟩) (fun h => .inr ⟨.inl (.inl h), q p H (Same.refl H) h⟩)⟩
def rTupL : List V → Hp → VK → Prop := fun vs H Q => ∃ p xs, vs = [.ref p] ∧ H p = some (.lst xs) ∧ ∀ l, H l = none → Q (.ref l) (upd H l (.tup xs))
theorem tup_L : CallR X (.type "tuple") rTupL := CallR.imp call_tuple_of fun vs H Q ⟨p, ys, e, h, q⟩ => ⟨p, ys, e, .inl ⟨.inl (.inl h), q⟩⟩
end
/-- the loop over enumerate(a list or a tuple) -/
theorem for_enumQ {K : PySem.W.Frag} {ta : TA} {a : Addr} {xs : List V} {g : TG} {tb : TS} {D : Ends} {σ : L2.St} {H : Hp} (hta : ∀ Q : List V → Hp → Prop, Q [.ref a] H → ta σ H Q) (hq : Sq H a xs) (Pv : Nat → L2.St → Hp → Prop) (h0 : Pv 0 σ H)
    (hl : ∀ i σ H', Pv i σ H' → ∀ o, H a = some o → H' a = some o)
    (hs : ∀ i x T σ H, xs[i]? = some x → Pv i σ H → H T = none → g (.ref T) σ (upd H T (.tup [.int (i : Nat), x])) fun σ' H' => tb { D with nx := Pv (i + 1), ct := Pv (i + 1), bk := D.nx } σ' H')
    (hd : ∀ σ H, Pv xs.length σ H → D.nx σ H) : tFor (iEnumQ K ta) g tb D σ H := by
  rcases hq with hq | hq
  · refine .inl (hta _ ⟨a, xs, rfl, .inl (.inl hq), ?_⟩)
    refine ⟨fun i m σ H' => m = xs.length - i ∧ i ≤ xs.length ∧ Pv i σ H', ⟨_, rfl, Nat.zero_le _, h0⟩, ?_⟩
    rintro i m σ H' ⟨rfl, hi, p⟩
    have hk : SqL K H' a xs := .inl (.inl (hl i σ H' p _ hq))
    by_cases hlt : i < xs.length
    · refine .inr ⟨⟨xs, xs[i], hk, by simp [hlt]⟩, fun σ' H' => Pv (i + 1) σ' H', fun σ' H' q => ⟨xs.length - (i + 1), by omega, rfl, hlt, q⟩, fun x H2 hy => ?_⟩
      obtain ⟨T, c, rfl, nT, rfl, hc⟩ := hy
      exact hs i c T σ H' (hc xs hk) p nT
    · have ei : i = xs.length := by omega
      subst ei
      exact .inl ⟨⟨xs, hk, Nat.le_refl _⟩, hd σ H' p⟩
  · refine .inr (hta _ ⟨a, xs, rfl, .inl (.inl hq), ?_⟩)
    refine ⟨fun i m σ H' => m = xs.length - i ∧ i ≤ xs.length ∧ Pv i σ H', ⟨_, rfl, Nat.zero_le _, h0⟩, ?_⟩
    rintro i m σ H' ⟨rfl, hi, p⟩
    have hk : SqT K H' a xs := .inl (.inl (hl i σ H' p _ hq))
    by_cases hlt : i < xs.length
    · refine .inr ⟨⟨xs, xs[i], hk, by simp [hlt]⟩, fun σ' H' => Pv (i + 1) σ' H', fun σ' H' q => ⟨xs.length - (i + 1), by omega, rfl, hlt, q⟩, fun x H2 hy => ?_⟩
      obtain ⟨T, c, rfl, nT, rfl, hc⟩ := hy
      exact hs i c T σ H' (hc xs hk) p nT
    · have ei : i = xs.length := by omega
      subst ei
      exact .inl ⟨⟨xs, hk, rfl⟩, hd σ H' p⟩
section
variable {X : Cx}
theorem shaped_flatT {xs : List V} (hx : xs.all isF = true) : SeqAt.shaped (.tuple (xs.map datV)) = true := by
  obtain ⟨h1, h2⟩ := lay_flat hx
  simp [SeqAt.shaped, PyData.canLay0, PyData.depth, h1, h2]
def rNeL : R2 := fun x y H Q => ∃ p q xs ys, x = .ref p ∧ y = .ref q ∧ H p = some (.lst xs) ∧ H q = some (.lst ys) ∧ xs.all isF = true ∧ ys.all isF = true ∧ Q (.bl (!decide (xs = ys))) H
def rNeT : R2 := fun x y H Q => ∃ p q xs ys, x = .ref p ∧ y = .ref q ∧ H p = some (.tup xs) ∧ H q = some (.tup ys) ∧ xs.all isF = true ∧ ys.all isF = true ∧ Q (.bl (!decide (xs = ys))) H
def rEqT : R2 := fun x y H Q => ∃ p q xs ys, x = .ref p ∧ y = .ref q ∧ H p = some (.tup xs) ∧ H q = some (.tup ys) ∧ xs.all isF = true ∧ ys.all isF = true ∧ Q (.bl (decide (xs = ys))) H
theorem ne_LL (hu : X.A.units + 64 < cLine) : OpR X (compareOp .NotEq) rNeL := by
  intro pins s σ H x y v u Q I rx ry h
  obtain ⟨p, q, xs, ys, rfl, rfl, hp, hq, fx, fy, k⟩ := h
  refine op_neD hu pins s σ H _ _ v u Q I rx ry ⟨.list (xs.map datV), .list (ys.map datV), .lst (.inl (.inl hp)) (dpAll_dat fx), .lst (.inl (.inl hq)) (dpAll_dat fy), shaped_flat fx, shaped_flat fy, ?_⟩
  rw [PyData.eqv, eqvAll_dat fx fy]
  exact k
theorem ne_TT (hu : X.A.units + 64 < cLine) : OpR X (compareOp .NotEq) rNeT := by
  intro pins s σ H x y v u Q I rx ry h
  obtain ⟨p, q, xs, ys, rfl, rfl, hp, hq, fx, fy, k⟩ := h
  refine op_neD hu pins s σ H _ _ v u Q I rx ry ⟨.tuple (xs.map datV), .tuple (ys.map datV), .tup (.inl (.inl hp)) (dpAll_dat fx), .tup (.inl (.inl hq)) (dpAll_dat fy), shaped_flatT fx, shaped_flatT fy, ?_⟩
  rw [PyData.eqv, eqvAll_dat fx fy]
  exact k
theorem eq_TT (hu : X.A.units + 64 < cLine) : OpR X (compareOp .Eq) rEqT := by
  intro pins s σ H x y v u Q I rx ry h
  obtain ⟨p, q, xs, ys, rfl, rfl, hp, hq, fx, fy, k⟩ := h
  refine op_eqD hu pins s σ H _ _ v u Q I rx ry ⟨.tuple (xs.map datV), .tuple (ys.map datV), .tup (.inl (.inl hp)) (dpAll_dat fx), .tup (.inl (.inl hq)) (dpAll_dat fy), shaped_flatT fx, shaped_flatT fy, ?_⟩
  rw [PyData.eqv, eqvAll_dat fx fy]
  exact k
theorem all_int (ns : List Int) : (ns.map V.int).all isF = true := by simp [isF]
theorem map_int_inj {a b : List Int} : a.map V.int = b.map V.int ↔ a = b := by
  constructor
  · intro h
    induction a generalizing b with
    | nil => cases b with
      | nil => rfl
      | cons y b => cases h
    | cons x a ih => cases b with
      | nil => cases h
      | cons y b =>
        simp only [List.map_cons, List.cons.injEq, V.int.injEq] at h
        rw [h.1, ih h.2]
  · intro h
    rw [h]
/-- len of a list or a tuple -/
def rMin2 : List V → Hp → VK → Prop := fun xs H Q => ∃ i j, xs = [.int i, .int j] ∧ Q (.int (if j < i then j else i)) H
theorem min_2 (hc : X.calm = true) : CallR X (.builtin "min") rMin2 := call_min2 hc
def rAnd255 : R2 := fun x y H Q => ∃ i : Int, x = .int i ∧ y = .int 255 ∧ Q (.int (i % 256)) H
theorem and_255 {X : Cx} : OpR X (binaryOp .BitAnd) rAnd255 := by
  intro pins s σ H x y v u Q I rx ry h
  obtain ⟨i, rfl, rfl, q⟩ := h
  exact op_andM pins s σ H _ _ v u Q I rx ry ⟨i, 8, rfl, rfl, q⟩
def rNonIs : R2 := fun x y H Q => y = .non ∧ Q (.bl (decide (x = .non))) H
theorem op_isNon : OpR X (compareOp .Is) rNonIs := op_isN
def rNonNot : R2 := fun x y H Q => y = .non ∧ Q (.bl (!decide (x = .non))) H
theorem op_notNon : OpR X (compareOp .IsNot) rNonNot := op_notN
def rIns : V → List V → Hp → VK → Prop := fun x vs H Q => ∃ (l : Addr) (xs : List V) (i : Int) (y : V), x = .ref l ∧ vs = [.int i, y] ∧ H l = some (.lst xs) ∧ xs.length < sizeLine ∧ 0 ≤ i ∧ i < 2 ^ 63 ∧ Q .non (upd H l (.lst (xs.take i.toNat ++ [y] ++ xs.drop i.toNat)))
theorem mt_ins : MtR X "list.insert" rIns := mt_insert
open AutoSeq1 in
theorem extend_tuple (l : Addr) (items : Array Value) (n : Nat) (b : Addr) (items2 : Array Value) (n2 : Nat) (dct : Option Addr) (sl : Array (Option Value)) (hs0 : ¬(!items.isEmpty && Builtin.List.listTooLong (items.size + items2.size)) = true) (hs1 : items.size ≤ sizeLine) (hs2 : items.size + items2.size ≤ sizeLine + 1) :
    Meets (Builtin.«list.extend» ⟨[.ref l, .ref b], []⟩) (fun _ R s => s.heap.get? l = some { cls := .type "list", dict := none, data := .seq items n, slots := #[] } ∧ s.heap.get? b = some { cls := .type "tuple", dict := dct, data := .seq items2 n2, slots := sl } ∧ R (.ok (.ret Value.none)) { s with heap := s.heap.update l (Obj.mapSeq fun x => x ++ items2), toks := s.toks }) :=
  .of_wp fun prog w A R s h => by
    obtain ⟨hp, g, d, tk, os⟩ := s
    obtain ⟨hl, hb, h⟩ := h
    have f1 := idx_int
    have f2 := AutoSeq1.sub_tuple_tuple
    have f3 := AutoSeq1.sub_list_list
    have f4 := AutoSeq1.sub_tuple_list
    have f5 := AutoSeq1.sub_list_tuple
    have hz' : (items ++ items2).size ≤ sizeLine + 1 := by rw [Array.size_append]; exact hs2
    wp_walk using (wpAny_updateSeq hl rfl (hz := hs1) (_hz' := hz')), wpAny_loadPart' hl, wpAny_loadPart' hb
    exact ⟨_, rfl, h⟩
def rExtQ : V → List V → Hp → VK → Prop := fun x vs H Q => ∃ l b xs zs, x = .ref l ∧ vs = [.ref b] ∧ H l = some (.lst xs) ∧ Sq H b zs ∧ xs.length + zs.length ≤ sizeLine ∧ Q .non (upd H l (.lst (xs ++ zs)))
theorem mt_extQ : MtM X "list.extend" rExtQ := by
  intro pins s σ H x vs v us Q I rx rv h
  obtain ⟨l, b, xs, zs, rfl, rfl, hH, hB, hz, q⟩ := h
  rcases hB with hB | hB
  · exact mt_extend pins s σ H _ _ v us Q I rx rv ⟨l, b, xs, zs, rfl, rfl, hH, hB, hz, q⟩
  cases rx
  obtain ⟨u, rfl, ru⟩ := rv.one
  cases ru
  obtain ⟨z, its, n, r, hl, e⟩ := I.lstM hH
  obtain ⟨its2, r2, ⟨⟨c2, d2, dt2, sl2⟩, e2, hc2, n2, hd2⟩, hz2⟩ := I.tuple (.inl (.inl hB))
  have hl2 := r2.length
  replace hc2 : c2 = .type "tuple" := hc2
  replace hd2 : dt2 = .seq its2.toArray n2 := hd2
  subst hc2 hd2
  have hsz : its.toArray.size + its2.toArray.size ≤ sizeLine := by rw [List.size_toArray, List.size_toArray]; omega
  have hlong : ¬ (!its.toArray.isEmpty && Builtin.List.listTooLong (its.toArray.size + its2.toArray.size)) = true := by
    rw [notLongL hsz, Bool.and_false]
    exact Bool.false_ne_true
  refine call_meets F.slot_list_extend ⟨_, e, rfl⟩ F.entry_list_extend (F.args_list_extend_2 _ _)
    (extend_tuple l its.toArray n b its2.toArray n2 d2 sl2 hlong (by rw [List.size_toArray]; omega) (by omega)) ⟨e, e2, ?_⟩
  refine ⟨.non, _, I.lset (its' := its ++ its2) hH e (by simp) (r.append r2) ?_, rfl, q⟩
  rw [List.length_append]
  omega
def rSlQ : V → Option Int → Option Int → Hp → VK → Prop := fun x lo hi H Q => ∃ a xs, x = .ref a ∧ Sq H a xs ∧ ∀ p H', Same H H' → Sq H' p (cutV xs lo hi) → Q (.ref p) H'
theorem sl_Q : SlR X rSlQ := by
  intro pins s σ H x v vl vu lo hi sl Q I rx hs pl pu h
  obtain ⟨a, xs, rfl, hx, q⟩ := h
  rcases hx with hx | hx
  · exact sl_L pins s σ H _ v vl vu lo hi sl Q I rx hs pl pu ⟨a, xs, rfl, hx, fun p np => q p _ (same_new np) (.inl upd_same)⟩
  · refine sl_tupA pins s σ H _ v vl vu lo hi sl Q I rx hs pl pu ⟨a, xs, rfl, .inl (.inl hx), fun hw => ?_, fun _ p np => q p _ (same_new np) (.inr upd_same)⟩
    have e : cutV xs lo hi = xs := by
      unfold cutV
      rw [hw.1, hw.2]
      simp
    exact q a H (Same.refl H) (by rw [e]; exact .inr hx)
end
end Fx
/-! Own classes: attribute targets, methods by promise; defs that know that no repr is under way (FnG) -/
namespace Fx
open PySem PySem.Spec PyProof.Rows L2
section
variable {X : Cx} {o : Expr} {to : TE} {f : Str} {pos : Pos}
/-- .. , o.f, .. = value -/
def gFld (K : PySem.W.Frag) (to : TE) (f : Str) : TG := fun v σ H Q => to σ H fun x H1 => ∃ a C dx fs, x = .ref a ∧ H1 a = some (.ins C dx fs) ∧ Cls K C ∧ NoAttr K C f ∧ fs.length < 1000 ∧ Q σ (upd H1 a (.ins C dx (putF f v fs)))
theorem pg_fld (ho : PE X o to) : PG X (.Attribute o f pos) (gFld X.K to f) := by
  refine ⟨fun pins s σ H v u Q I r h => ?_⟩
  rw [assign_Attribute]
  refine wpAny_bind (wpAny_holding (thn (ho.run pins s σ H _ I h) fun ov s1 ⟨x, H1, I1, r1, a, C, dx, fs, ex, ea, c, n, l, q⟩ => ?_))
  subst ex
  obtain rfl : ov = Value.ref a := r1
  refine wpAny_bind (wpAny_standAt (wpAny_bind (wpAny_holding (setattr_ok I1 ea c n l r fun s3 I3 => ?_))))
  exact wpAny_release ⟨σ, _, I3, q⟩
end
/-! ### methods, makers -/
structure CalM (P : Program) (w : World) (K : PySem.W.Frag) (mg : Str → Option Value) (base : Heap) (CX : CXT) (k : Nat) (C : Addr) (m : Str) (ps : List Str) (sp : Sp) : Prop where
  ex : ∃ f fd, Meth K C m f ∧ Binds K fd ps [] ∧ FnOk P w K mg base CX k f fd ps sp
structure CalI (P : Program) (w : World) (K : PySem.W.Frag) (mg : Str → Option Value) (base : Heap) (CX : CXT) (k : Nat) (C : Addr) (ps : List Str) (sp : Sp) : Prop where
  ex : ∃ f fd, Mk K C f ∧ Binds K fd ps [] ∧ FnOk P w K mg base CX k f fd ps sp
section
variable {X : Cx} {x : Str} {C : Addr} {ps : List Str} {sp : Sp} {k : Nat} {CX : CXT} {E : XK} {e : Expr} {es : List Expr} {t : TA} {p pos : Pos}
/-- C(e, ..) -/
theorem pe_mk (M : CalI X.prog X.w X.K X.mg X.base CX k C ps sp) (hr : Room (k + 1) X.A) (hm : X.mg x = some (.ref C)) (hx : Passes CX X E) (ha : PA X (e :: es) t) (hg : Gl X x := by rfl) (hdb : (x == ("__debug__" : Str)) = false := by decide)
    (hs : (e :: es).all nostar = true := by rfl) : PE X (.Call (.Name x p) (e :: es) [] pos) (tMake C sp [] E t) := by
  obtain ⟨f, fd, m, b, F⟩ := M.ex
  simp only [List.all_cons, Bool.and_eq_true] at hs
  exact pe_make m F hr hg hm b .nil hx ha hdb (star_ok hs.1) (back_ok hs.2)
end
/-! ### a method's body -/
abbrev BindQ (x q : Str) (st : Stmt) (ps : List Str) : Prop := ∀ (kV doc pm : Value) (an : Option Addr) (cdv ct : Value) (us : List Value), us.length = ps.length → bindArgs (PySem.W.fnOf x q (defArgs st) (defBody st) (defScope st) .none kV doc pm an cdv ct) ⟨us, []⟩ = pure (ps.zip us)
section
variable {P : Program} {w : World} {K : PySem.W.Frag} {mg : Str → Option Value} {base : Heap} {x qual : Str} {st : Stmt} {N ps : List Str} {k : Nat} {sp : Sp} {f : Addr} {fd : FuncData}
theorem ok0 (F : FunD K x qual (defArgs st) (defBody st) (defScope st) [] [] f fd) (sc : FnScope N ps (defScope st)) (len : ∀ vs H Q E, sp vs H Q E → vs.length = ps.length)
    (hbody : ∀ (f : Addr) (cdv : Value) (A : Around) (outer : List Env) (s : Shared) (H : Hp) (vs : List V) (Q : VK) (E : XK), Room k (A.deeper (envOfC qual (defScope st) s.heap.objs.size f cdv)) → sp vs H Q E →
      ∃ t, PSs (cxOf CX0 P w K mg base N qual (defScope st) f cdv A outer s H E).nox (defBody st) t ∧ t { nx := fun _ H' => Q .non H', rt := Q } (L2.start N vs) H) : FnOk P w K mg base CX0 (k + 1) f fd ps sp := by
  refine F.ok sc len fun cdv A outer s H vs Q E hr hsp => ?_
  obtain ⟨t, h, q⟩ := hbody f cdv A outer s H vs Q E hr hsp
  exact ⟨t, h.nox, q⟩
theorem okX (F : FunD K x qual (defArgs st) (defBody st) (defScope st) [] [] f fd) (sc : FnScope N ps (defScope st)) (len : ∀ vs H Q E, sp vs H Q E → vs.length = ps.length)
    (hbody : ∀ (f : Addr) (cdv : Value) (A : Around) (outer : List Env) (s : Shared) (H : Hp) (vs : List V) (Q : VK) (E : XK), Room k (A.deeper (envOfC qual (defScope st) s.heap.objs.size f cdv)) → sp vs H Q E →
      ∃ t, PSs (cxOf (L2.CX P w) P w K mg base N qual (defScope st) f cdv A outer s H E) (defBody st) t ∧ t { nx := fun _ H' => Q .non H', rt := Q } (L2.start N vs) H) : FnOk P w K mg base (L2.CX P w) (k + 1) f fd ps sp :=
  F.ok sc len fun cdv A outer s H vs Q E hr hsp => hbody f cdv A outer s H vs Q E hr hsp
end
/-! ### no repr is under way: guards = some [] -/
structure FnG (P : Program) (w : World) (K : PySem.W.Frag) (mg : Str → Option Value) (base : Heap) (CX : CXT) (k : Nat) (f : Addr) (fd : FuncData) (ps : List Str) (sp : Sp) : Prop where
  len : ∀ vs H Q E, sp vs H Q E → vs.length = ps.length
  run : ∀ (A : Around) (outer : List Env) (s : Shared) (H : Hp) (args : Args) (us : List Value) (vs : List V) (Q : VK) (E : XK), A.guards = some [] → Room k A → Env0 P w K mg base A outer s H → BindsTo s fd args (ps.zip us) → Vals vs us → sp vs H Q E →
    codeAny (model P w) A (.call (.ref f) args) (CR CX outer P w H s Q E) s
section
variable {P : Program} {w : World} {K : PySem.W.Frag} {mg : Str → Option Value} {base : Heap} {CX : CXT} {k : Nat} {f : Addr} {fd : FuncData} {N ps : List Str} {sp : Sp}
theorem FnG.of (F : FnOk P w K mg base CX k f fd ps sp) : FnG P w K mg base CX k f fd ps sp := ⟨F.len, fun A outer s H args us vs Q E _ hr e0 hb hv hs => F.run A outer s H args us vs Q E hr e0 hb hv hs⟩
/-- a def whose body may use that no repr is under way -/
theorem fn_ofG {name qual : Str} {params : Arguments} {body : List Stmt} {scope : Scope} {dV kV doc pm cdv ct oc : Value} {an od : Option Addr} {osl : Array (Option Value)}
    (lk : K.lookup f = some ⟨oc, od, .func (PySem.W.fnOf name qual params body scope dV kV doc pm an cdv ct), osl⟩) (hcd : PySem.W.codeIn K cdv qual = true) (S : FnScope N ps scope) (len : ∀ vs H Q E, sp vs H Q E → vs.length = ps.length)
    (hbody : ∀ (A : Around) (outer : List Env) (s : Shared) (H : Hp) (vs : List V) (Q : VK) (E : XK), A.guards = some [] → Room k (A.deeper (envOfC qual scope s.heap.objs.size f cdv)) → sp vs H Q E →
      ∃ t, PSs (cxOf CX P w K mg base N qual scope f cdv A outer s H E) body t ∧ t { nx := fun _ H' => Q .non H', rt := Q } (L2.start N vs) H) :
    FnG P w K mg base CX (k + 1) f (PySem.W.fnOf name qual params body scope dV kV doc pm an cdv ct) ps sp := by
  constructor
  · exact len
  intro A outer s H args us vs Q E hG hr e0 hb r hsp
  have hl := len _ _ _ _ hsp
  have kin : K.In s.heap := e0.mod.kin.keeps fun b o e => (e0.bs b o e).1
  have nol : s.heap.NoLimit := e0.mod.nolimit.keeps fun b o e => (e0.bs b o e).1
  have kinds : ∀ y ∈ ps.zip us, scope.names.lookup y.1 = some .local ∨ (scope.names.lookup y.1 = some .cell ∧ ((cellsFrom (s.heap.objs.size + 1) scope.names []).lookup y.1).isSome = true) := by
    rintro ⟨n, v⟩ hy
    rcases S.par n (List.of_mem_zip hy).1 with q | q
    · left; exact q
    · right; exact ⟨q, PySem.W.cellsFrom_some _ _ _ (.inl q)⟩
  refine codeAny_call_function hr.depth (kin _ _ lk) rfl S.co S.gen rfl (PySem.W.codeRec_of kin hcd) (hb _ _ _ _ (wpAny_newFunctionEnv_cells S.kind kinds fun env he s1 x => ?_))
  subst he
  refine ⟨nol.keeps x.toInCall.keep, codeAny_func ?_⟩
  obtain ⟨t, ht, hq⟩ := hbody A outer s H vs Q E hG (hr.deeper _) hsp
  refine wpAny_mono (ht.run [] s1 (L2.start N vs) H _ (inv_start S hr.hd e0 hl r x) hq) (fun fl s' hs => ?_) fun e s' hs => hs
  have done : ∀ {σ' : L2.St} {H' : Hp} {v : V} {u : Value}, Inv (cxOf CX P w K mg base N qual scope f cdv A outer s H E) [] σ' H' s' → RelV v u → Q v H' → CE outer P w H s Q u s' := by
    intro σ' H' v u J rv q
    exact ⟨v, H', J.os, J.bare, J.base, J.hok, rv, q⟩
  cases fl with
  | ret u => obtain ⟨v, σ', H', J, rv, q⟩ := hs; exact done J rv q
  | next => obtain ⟨σ', H', J, q⟩ := hs; exact done (v := V.non) (u := Value.none) J rfl q
  | brk => obtain ⟨_, _, _, q⟩ := hs; exact q.elim
  | cont => obtain ⟨_, _, _, q⟩ := hs; exact q.elim
end
structure CalG (P : Program) (w : World) (K : PySem.W.Frag) (mg : Str → Option Value) (base : Heap) (CX : CXT) (k : Nat) (x : Str) (ps : List Str) (sp : Sp) : Prop where
  ex : ∃ f fd, mg x = some (.ref f) ∧ PySem.W.keepIn K (.ref f) = true ∧ Binds K fd ps [] ∧ FnG P w K mg base CX k f fd ps sp
section
variable {P : Program} {w : World} {K : PySem.W.Frag} {mg : Str → Option Value} {base : Heap} {x : Str} {st : Stmt} {N ps : List Str} {k : Nat} {sp : Sp} {f : Addr} {fd : FuncData}
theorem lawG (F : FunD K x x (defArgs st) (defBody st) (defScope st) [] [] f fd) (sc : FnScope N ps (defScope st)) (len : ∀ vs H Q E, sp vs H Q E → vs.length = ps.length)
    (hbody : ∀ (f : Addr) (cdv : Value) (A : Around) (outer : List Env) (s : Shared) (H : Hp) (vs : List V) (Q : VK) (E : XK), A.guards = some [] → Room k (A.deeper (envOfC x (defScope st) s.heap.objs.size f cdv)) → sp vs H Q E →
      ∃ t, PSs (cxOf CX0 P w K mg base N x (defScope st) f cdv A outer s H E).nox (defBody st) t ∧ t { nx := fun _ H' => Q .non H', rt := Q } (L2.start N vs) H) : FnG P w K mg base CX0 (k + 1) f fd ps sp := by
  obtain ⟨oc, od, dV, kV, doc, pm, an, cdv, ct, osl, rfl, lk, hcd, _, _⟩ := F.ex
  refine fn_ofG lk hcd sc len fun A outer s H vs Q E hG hr hsp => ?_
  obtain ⟨t, h, q⟩ := hbody f cdv A outer s H vs Q E hG hr hsp
  exact ⟨t, h.nox, q⟩
theorem Src.calG (S : Src K mg x st) (sc : FnScope N ps (defScope st)) (bn : BindP x st ps) (len : ∀ vs H Q E, sp vs H Q E → vs.length = ps.length)
    (hbody : ∀ (f : Addr) (cdv : Value) (A : Around) (outer : List Env) (s : Shared) (H : Hp) (vs : List V) (Q : VK) (E : XK), A.guards = some [] → Room k (A.deeper (envOfC x (defScope st) s.heap.objs.size f cdv)) → sp vs H Q E →
      ∃ t, PSs (cxOf CX0 P w K mg base N x (defScope st) f cdv A outer s H E).nox (defBody st) t ∧ t { nx := fun _ H' => Q .non H', rt := Q } (L2.start N vs) H) : CalG P w K mg base CX0 (k + 1) x ps sp := by
  obtain ⟨f, fd, g, F⟩ := S
  exact ⟨f, fd, g, F.kp, F.bindsN bn, lawG F sc len hbody⟩
end
section
variable {X : Cx} {x : Str} {ps : List Str} {sp : Sp} {k : Nat} {CX : CXT} {E : XK} {e : Expr} {es : List Expr} {t : TA} {p pos : Pos}
/-- f(e, ..) where no repr is under way -/
theorem pe_calG (C : CalG X.prog X.w X.K X.mg X.base CX k x ps sp) (hG : X.A.guards = some []) (hr : Room k X.A) (hx : Passes CX X E) (ha : PA X (e :: es) t) (hg : Gl X x := by rfl) (hdb : (x == ("__debug__" : Str)) = false := by decide)
    (hs : (e :: es).all nostar = true := by rfl) : PE X (.Call (.Name x p) (e :: es) [] pos) (tCall sp [] E t) := by
  obtain ⟨f, fd, g, kp, b, F⟩ := C.ex
  simp only [List.all_cons, Bool.and_eq_true] at hs
  refine ⟨fun pins s σ H Q I h => wpAny_Call_Name_kw (ld_glob I hg g ?_ hdb)⟩
  refine PySem.W.callWith_K (h₀ := X.base) I.ok.mod.kin kp (thn (ha.run pos pins s σ H _ I h) fun us s1 ⟨vs, H1, I1, r, q⟩ => ⟨I1.kIn, ?_⟩) (star_ok hs.1) (back_ok hs.2)
  have q2 : sp vs H1 Q E := by
    have q' : sp (vs ++ []) H1 Q E := q
    rw [List.append_nil] at q'
    exact q'
  have hl : us.length = ps.length := by rw [← r.length]; exact F.len _ _ _ _ q2
  have hb : BindsTo s1 fd ⟨us, []⟩ (ps.zip us) := by
    have := b s1 us I1.kIn (by rw [List.append_nil]; exact hl)
    rw [List.append_nil] at this
    exact this
  refine wpAny_call (codeAny_mono (F.run X.A X.stack s1 H1 ⟨us, []⟩ us vs Q E hG hr I1.env0 hb r q2) fun r s' hq => ?_)
  cases r with
  | error e => exact hx pins σ H1 s1 e s' I1 hq
  | ok fl => cases fl with
    | ret u => exact I1.after hq
    | next => exact hq.elim
    | brk => exact hq.elim
    | cont => exact hq.elim
end
/-! ### repr of data -/
def rRepr (K : PySem.W.Frag) : List V → Hp → VK → Prop := fun xs H Q => ∃ (x : V) (d : PyData), xs = [x] ∧ Dp K H x d ∧ d.showable = true ∧ d.hasDict = false ∧ d.depth ≤ 50 ∧ d.shown.length ≤ sizeLine ∧ Q (.str d.shown) H
theorem call_reprD {X : Cx} (hG : X.A.guards = some []) (hu : X.A.units + 64 < cLine) : CallR X (.builtin "repr") (rRepr X.K) := by
  intro pins s σ H xs us Q I rx h
  obtain ⟨x, d, rfl, hd, sh, nd, dp, hz, q⟩ := h
  obtain ⟨u, rfl, ru⟩ := rx.one
  obtain ⟨as, rd⟩ := Dp.reads I d x u hd ru
  have fin : ∀ h' tk0 tk, (∀ b o, s.heap.get? b = some o → h'.get? b = some o) → EP X pins σ Q (.str d.shown tk0) { s with heap := h', toks := tk } := fun h' tk0 tk hk => ⟨.str d.shown, H, I.kept hk, ⟨_, rfl⟩, q⟩
  have tok : ∀ tk0 tk, EP X pins σ Q (.str d.shown tk0) { s with toks := tk } := fun tk0 tk => ⟨.str d.shown, H, I.tok _, ⟨_, rfl⟩, q⟩
  cases hd with
  | non => cases ru; exact P.repr_of_none (tok _ _)
  | bl b => cases ru; exact P.repr_of_bool (by cases b <;> exact tok _ _)
  | int i =>
    obtain ⟨t, rfl⟩ := ru
    exact P.repr_of_int (by simpa [PyData.showable] using sh) (tok _ _)
  | str z =>
    obtain ⟨t, rfl⟩ := ru
    exact P.repr_of_str (tok _ _) hz
  | lst h1 h2 =>
    cases ru
    exact repr_of_reads' rd sh (fun z => by rw [nd] at z; cases z) hG (by omega) (fun b o e => e) (fun h' u tk hk => fin h' u tk hk) hz
  | tup h1 h2 =>
    cases ru
    exact repr_of_reads' rd sh (fun z => by rw [nd] at z; cases z) hG (by omega) (fun b o e => e) (fun h' u tk hk => fin h' u tk hk) hz
theorem call_reprK {X : Cx} {K : PySem.W.Frag} (hK : X.K = K) (hG : X.A.guards = some []) (hu : X.A.units + 64 < cLine) : CallR X (.builtin "repr") (rRepr K) := by
  subst hK
  exact call_reprD hG hu
end Fx
/-! A law's end where the law's def knows that no repr is under way -/
namespace Fx
open PySem PySem.Spec PyProof.Rows L2
section
variable {P : Program} {w : World} {K : PySem.W.Frag} {mg mb : Str → Option Value} {CX : CXT} {k : Nat} {fa a : Addr} {fd : FuncData} {x : Str} {sp : Sp} {z : Shared} {vs : List Value} {ns : List Int}
/-- the law's call from a heap that tracks the script at most -/
theorem endG_from {H : Hp} (KX : K.In z.heap) (hns : z.heap.Ns mainGlobals mg) (hb : z.heap.Ns builtinsNs mb) (hbb : ∀ x : Str, x ≠ "__name__" → mb x = bootBuiltins x) (hlim : z.heap.NoLimit) (hg : z.gens = #[])
    (ha : z.heap.get? a = some { cls := .type "list", data := .seq vs.toArray }) (hr : Room k callerA) (F : ∀ base : Heap, K.In base → base.Ns mainGlobals mg → FnG P w K mg base CX k fa fd [x] sp)
    (hbind : ∀ (s : Shared) (u : Value), BindsTo s fd ⟨[u], []⟩ [(x, u)]) (hCX : ∀ H e s', CX [] H z (fun _ _ _ => False) e s' → False) (hO : Only H) (hp : sp [.ref a] H (fun v _ => v = .bl true) fun _ _ _ => False)
    (hok : HOk P w H z.heap) (only : ∀ b, H b ≠ none → b = a) (hK : H a ≠ none → K.lookup a = none) :
    codeAny (model P w) callerA (.call (.ref fa) ⟨[.ref a], []⟩) (fun r s' => r = .ok (.ret (.bool true)) ∧ OldK z.heap s'.heap ∧ s'.os = z.os ∧ AllBare s'.gens) z := by
  -- what is not the script is not tracked
  have free : ∀ {b : Addr}, b ≠ a → H b = none := by
    intro b hn
    cases q : H b with
    | none => rfl
    | some u => exact absurd (only b (by rw [q]; intro y; cases y)) hn
  have keepNs : ∀ {b : Addr} {m : Str → Option Value}, z.heap.Ns b m → (hidT z.heap H).Ns b m := by
    rintro b m ⟨o, es, ep, e, d, r⟩
    refine ⟨o, es, ep, hidT_get e (free ?_), d, r⟩
    intro q
    rw [q, ha] at e
    cases e
    cases (show Data.seq vs.toArray _ = Data.dict es ep from d)
  have keepK : K.In (hidT z.heap H) := by
    intro b o e
    refine hidT_get (KX b o e) ?_
    cases q : H b with
    | none => rfl
    | some u =>
      have eb := only b (by rw [q]; intro y; cases y)
      rw [eb] at e q
      rw [hK (by rw [q]; intro y; cases y)] at e
      cases e
  obtain ⟨mc, l1, l2⟩ := hlim
  have hM : Mod K mg (hidT z.heap H) := ⟨keepK, keepNs hns, ⟨mb, keepNs hb, hbb⟩, ⟨mc, keepNs l1, l2⟩⟩
  have none_ : ∀ b : Addr, b ∉ ([] : List Addr) := fun b h => by cases h
  have e0 : Env0 P w K mg (hidT z.heap H) callerA [] z H := ⟨rfl, hM, fun b o e => of_hidT e, Nat.le_of_eq (hidT_size _ _), trivial, fun b q => absurd (show b ∈ ([] : List Addr) from q) (none_ b), hok, .of_eq hg⟩
  have run := (F _ keepK (keepNs hns)).run callerA [] z H ⟨[.ref a], []⟩ [.ref a] [.ref a] _ _ rfl hr e0 (hbind z (.ref a)) (.cons rfl .nil) hp
  refine codeAny_mono run fun r s' h => ?_
  match r, h with
  | .error e, h => exact (hCX H e s' h).elim
  | .ok .next, h => exact h.elim
  | .ok .brk, h => exact h.elim
  | .ok .cont, h => exact h.elim
  | .ok (.ret u), h =>
    obtain ⟨v, H', os, bare, un, hok', ru, qv⟩ := h
    have ev : v = .bl true := qv
    rw [ev] at ru
    obtain rfl : u = Value.bool true := ru
    refine ⟨rfl, OldK.of_keep fun b o e => ?_, os, bare⟩
    rcases hO b with f | ⟨ob, xs, f⟩
    · exact un.keep b o e f (by intro y; exact absurd (show b ∈ ([] : List Addr) from y) (none_ b)) (by simp)
    · have e1 := (hok b _ f).1
      have e2 := (hok' b _ (un.frzs b ob _ f)).1
      rw [e] at e1
      cases e1
      exact e2
end
theorem walk_ofG {l : PySem.W.OpenLaw} {n k : Nat} {q : Program} {loose : List Str} {XP : (Str → Option Value) → Heap → Prop} {YP : World → Heap → Prop} {d : DefRec} {x : Str}
    (hn : l.most = some n) (hn2 : n ≤ sizeLine) (hdf : d.params.defaults = []) (hr : Room k callerA)
    (F : ∀ (w : World) (mg : Str → Option Value) (fa : Addr) (h : Heap), YP w h → h.Ns mainGlobals mg → mg d.name = some (.ref fa) →
      ∃ (K : PySem.W.Frag) (fd : FuncData) (sp : Sp), K.In h ∧ (∀ (s : Shared) (u : Value), BindsTo s fd ⟨[u], []⟩ [(x, u)]) ∧
        (∀ (H : Hp) (a : Addr) (ns : List Int), ns.length ≤ n → SqL K H a (ns.map V.int) → sp [.ref a] H (fun v _ => v = .bl true) fun _ _ _ => False) ∧
        ∀ base : Heap, K.In base → base.Ns mainGlobals mg → FnG l.prog w K mg base CX0 k fa fd [x] sp) :
    PySem.W.WalkO q loose XP YP l.row.toRowW d [] (fun f vs => PySem.call f vs) := by
  refine Att.attach_call hn hdf fun w s₀ z mg mb fa o pm cd doc a vs ns G Y ho hd hcd hmg hobj hints hlen hg => ?_
  obtain ⟨K, fd, sp, KX, hb, hsp, hF⟩ := F w mg fa _ Y G.T.g hmg
  have rv := vals_ints hints
  have lv := hints.length
  have hl : ns.length ≤ sizeLine := Nat.le_trans hlen hn2
  have go : ∀ H : Hp, Only H → SqL K H a (ns.map V.int) → HOk l.prog w H z.heap → (∀ b, H b ≠ none → b = a) → (H a ≠ none → K.lookup a = none) → _ := fun H hO hS hok only hK =>
    endG_from KX G.T.g G.T.b G.T.builtins G.T.nolimit hg hobj hr hF hb (fun _ _ _ y => y) hO (hsp H a ns hlen hS) hok only hK
  cases hk : K.lookup a with
  | some o =>
    have e := KX a o hk
    rw [hobj] at e
    cases e
    have hS : SqL K (fun _ => none) a (ns.map V.int) := .inr ⟨_, vs.toArray, _, hk, rfl, rfl, rfl, (by rw [List.size_toArray, lv]; exact hl), by simpa using rv⟩
    exact go (fun _ => none) (fun _ => .inl rfl) hS (fun b u y => by cases (show (none : Option HO) = some u from y)) (fun b y => absurd rfl y) (fun y => absurd rfl y)
  | none =>
    let o0 : Obj := { cls := .type "list", data := .seq vs.toArray }
    let H0 : Hp := fun b => if b = a then some (.frz o0 (.lst (ns.map V.int))) else none
    have at_ : H0 a = some (.frz o0 (.lst (ns.map V.int))) := if_pos rfl
    have off : ∀ {b : Addr}, b ≠ a → H0 b = none := fun h => if_neg h
    refine go H0 (fun b => ?_) (.inl (.inr ⟨o0, at_⟩)) (fun b u y => ?_) (fun b y => ?_) fun _ => hk
    · by_cases e : b = a
      · rw [e]
        exact .inr ⟨_, _, at_⟩
      · exact .inl (off e)
    · by_cases e : b = a
      · rw [e, at_] at y
        cases y
        rw [e]
        exact ⟨hobj, by rw [List.length_map]; exact hl, vs, _, rv, hobj⟩
      · rw [off e] at y
        cases y
    · by_cases e : b = a
      · exact e
      · exact absurd (off e) y
end Fx
/-! text.ljust(n, sign), sign.join(a tracked list), is True, a module's tuple of tuples -/
namespace Fx
open PySem PySem.Spec PyProof.Rows L2
section
variable {X : Cx}
def rLj : V → List V → Hp → VK → Prop := fun x xs H Q => ∃ (a f : Str) (i : Int), x = .str a ∧ xs = [.int i, .str f] ∧ PadOk i = true ∧ f.length = 1 ∧ Q (.str (Txt.ljustF a i (f.cps.getD 0 0))) H
theorem mt_lj : MtR X "str.ljust" rLj := by
  intro pins s σ H x xs v us Q I rx rs h
  obtain ⟨a, f, i, rfl, rfl, hp, hf, q⟩ := h
  obtain ⟨t, rfl⟩ := rx
  obtain ⟨u1, u2, rfl, r1, r2⟩ := rs.two
  obtain ⟨t1, rfl⟩ := r1
  obtain ⟨t2, rfl⟩ := r2
  exact ljust_fill hp hf fun t' k => ⟨.str _, H, I.tok _, ⟨_, rfl⟩, q⟩
def rJn : V → List V → Hp → VK → Prop := fun x xs H Q => ∃ (a : Str) (p : Addr) (ys : List Str), x = .str a ∧ xs = [.ref p] ∧ H p = some (.lst (ys.map V.str)) ∧ (ys.map (·.length)).sum + ys.length * a.length ≤ 16777216 ∧ Q (.str (Txt.join a ys)) H
theorem mt_jn : MtR X "str.join" rJn := by
  intro pins s σ H x xs v us Q I rx rs h
  obtain ⟨a, p, ys, e1, e2, hp, hz, q⟩ := h
  exact mt_join pins s σ H x xs v us Q I rx rs ⟨a, p, ys, e1, e2, .inl (.inl (.inl hp)), hz, q⟩
def rIsBl : R2 := fun x y H Q => ∃ a b, x = .bl a ∧ y = .bl b ∧ Q (.bl (decide (a = b))) H
theorem op_isBo : OpR X (compareOp .Is) rIsBl := op_is_bl
def rNoBl : R2 := fun x y H Q => ∃ a b, x = .bl a ∧ y = .bl b ∧ Q (.bl (!decide (a = b))) H
theorem op_noBo : OpR X (compareOp .IsNot) rNoBl := op_isnot_bl
end
/-! ### a module's tuple of tuples of numbers -/
def tupI (K : PySem.W.Frag) (v : Value) (r : List Int) : Bool := match v with
  | .ref a => (match K.lookup a with
    | some ⟨.type c, _, .seq its _, _⟩ => decide (c = "tuple") && (decide (its.size ≤ sizeLine) && He.relAll (r.map V.int) its.toList)
    | _ => false)
  | _ => false
def tupIs (K : PySem.W.Frag) : List Value → List (List Int) → Bool
  | [], [] => true
  | v :: vs, r :: rs => tupI K v r && tupIs K vs rs
  | _, _ => false
def tupsB (K : PySem.W.Frag) (x : Str) (rows : List (List Int)) : Bool := match K.lookup (He.ga K x) with
  | some ⟨.type c, _, .seq its _, _⟩ => decide (c = "tuple") && (decide (its.size ≤ sizeLine) && tupIs K its.toList rows)
  | _ => false
theorem tupI_ok {K : PySem.W.Frag} {v : Value} {r : List Int} (h : tupI K v r = true) : ∃ a, v = .ref a ∧ ∀ H, SqT K H a (r.map V.int) := by
  cases v with
  | ref a =>
    refine ⟨a, rfl, fun H => ?_⟩
    unfold tupI at h
    dsimp only at h
    cases q : K.lookup a with
    | none => rw [q] at h; cases h
    | some o =>
      obtain ⟨oc, od, dt, osl⟩ := o
      rw [q] at h
      cases oc with
      | type c =>
        cases dt with
        | seq its n =>
          obtain ⟨h1, h2⟩ := He.ba (show (decide (c = "tuple") && (decide (its.size ≤ sizeLine) && He.relAll (r.map V.int) its.toList)) = true from h)
          obtain ⟨h3, h4⟩ := He.ba h2
          exact .inr ⟨_, its, n, q, congrArg Value.type (of_decide_eq_true h1), rfl, of_decide_eq_true h3, He.relAll_ok h4⟩
        | _ => cases h
      | _ => cases dt <;> cases h
  | _ => cases h
theorem tupIs_ok {K : PySem.W.Frag} : ∀ {vs : List Value} {rs : List (List Int)}, tupIs K vs rs = true → ∃ as : List Addr, Vals (as.map V.ref) vs ∧ ∀ (i : Nat) (r : List Int), rs[i]? = some r → ∃ a, as[i]? = some a ∧ ∀ H, SqT K H a (r.map V.int)
  | [], [], _ => ⟨[], .nil, fun i r h => by simp at h⟩
  | v :: vs, r :: rs, h => by
    obtain ⟨h1, h2⟩ := He.ba (show (tupI K v r && tupIs K vs rs) = true from h)
    obtain ⟨a, rfl, ha⟩ := tupI_ok h1
    obtain ⟨as, hv, hr⟩ := tupIs_ok h2
    refine ⟨a :: as, .cons rfl hv, fun i r' hi => ?_⟩
    cases i with
    | zero =>
      have e : r = r' := by simpa using hi
      exact ⟨a, rfl, e ▸ ha⟩
    | succ i =>
      obtain ⟨b, hb, hs⟩ := hr i r' (by simpa using hi)
      exact ⟨b, by simpa using hb, hs⟩
  | [], _ :: _, h => by cases h
  | _ :: _, [], h => by cases h
theorem tupsB_ok {K : PySem.W.Frag} {x : Str} {rows : List (List Int)} (h : tupsB K x rows = true) : ∃ as : List Addr, (∀ H, SqT K H (He.ga K x) (as.map V.ref)) ∧ ∀ (i : Nat) (r : List Int), rows[i]? = some r → ∃ a, as[i]? = some a ∧ ∀ H, SqT K H a (r.map V.int) := by
  unfold tupsB at h
  cases q : K.lookup (He.ga K x) with
  | none => rw [q] at h; cases h
  | some o =>
    obtain ⟨oc, od, dt, osl⟩ := o
    rw [q] at h
    cases oc with
    | type c =>
      cases dt with
      | seq its n =>
        obtain ⟨h1, h2⟩ := He.ba (show (decide (c = "tuple") && (decide (its.size ≤ sizeLine) && tupIs K its.toList rows)) = true from h)
        obtain ⟨h3, h4⟩ := He.ba h2
        obtain ⟨as, hv, hr⟩ := tupIs_ok h4
        exact ⟨as, fun H => .inr ⟨_, its, n, q, congrArg Value.type (of_decide_eq_true h1), rfl, of_decide_eq_true h3, hv⟩, hr⟩
      | _ => cases h
    | _ => cases dt <;> cases h
/-! ### loops over a text's signs -/
theorem for_S {z : Str} {g : TG} {tb : TS} {D : Ends} {σ : L2.St} {H : Hp} (Pv : Nat → L2.St → Hp → Prop) (h0 : Pv 0 σ H)
    (hs : ∀ i c σ H, z.cps.toList[i]? = some c → Pv i σ H → g (.str ⟨#[c]⟩) σ H fun σ2 H2 => tb { D with nx := Pv (i + 1), ct := Pv (i + 1), bk := D.nx } σ2 H2) (hd : ∀ σ H, Pv z.cps.toList.length σ H → D.nx σ H) :
    ∃ W : Nat → Nat → L2.St → Hp → Prop, (∃ m, W 0 m σ H) ∧ ∀ i m σ H, W i m σ H →
      ((Its z).stop i H ∧ D.nx σ H) ∨ ((Its z).go i H ∧ ∃ N : L2.St → Hp → Prop, (∀ σ' H', N σ' H' → ∃ m', m' < m ∧ W (i + 1) m' σ' H') ∧ ∀ x H', (Its z).yld i H x H' → g x σ H' fun σ2 H2 => tb { D with nx := N, ct := N, bk := D.nx } σ2 H2) := by
  refine ⟨fun i m σ H => m = z.cps.size - i ∧ i ≤ z.cps.size ∧ Pv i σ H, ⟨_, rfl, Nat.zero_le _, h0⟩, ?_⟩
  rintro i m σ H ⟨rfl, hi, p⟩
  by_cases hlt : i < z.cps.size
  · refine .inr ⟨hlt, fun σ' H' => Pv (i + 1) σ' H', fun σ' H' q => ⟨z.cps.size - (i + 1), by omega, rfl, hlt, q⟩, fun x H' hy => ?_⟩
    obtain ⟨rfl, c, hc, rfl⟩ := hy
    exact hs i c σ H' (by rw [Array.getElem?_toList]; exact hc) p
  · have ei : i = z.cps.size := by omega
    subst ei
    exact .inl ⟨Nat.le_refl _, hd σ H (by rw [Array.length_toList]; exact p)⟩
theorem lc_S {z : Str} {g : TG} {tt : TT} {te : TE} {vs : List Nat} {σ : L2.St} {H1 : Hp} {D : Addr} {Qd : Hp → Prop} (Pv : Nat → Hp → Prop) (h0 : Pv 0 (upd H1 D (.lst [])))
    (hs : ∀ i c H, z.cps.toList[i]? = some c → Pv i H → g (.str ⟨#[c]⟩) (wipe σ vs) H fun σ2 H2 => wipe σ2 vs = wipe σ vs ∧ tt σ2 H2 fun b H3 =>
      if b = true then te σ2 H3 fun y H4 => ∃ acc, H4 D = some (.lst acc) ∧ acc.length < sizeLine ∧ Pv (i + 1) (upd H4 D (.lst (acc ++ [y]))) else Pv (i + 1) H3) (hd : ∀ H, Pv z.cps.toList.length H → Qd H) :
    ∃ W : Nat → Nat → Hp → Prop, (∃ m, W 0 m (upd H1 D (.lst []))) ∧ ∀ i m H, W i m H →
      ((Its z).stop i H ∧ Qd H) ∨ ((Its z).go i H ∧ ∃ Nx : Hp → Prop, (∀ H', Nx H' → ∃ m', m' < m ∧ W (i + 1) m' H') ∧ ∀ x H', (Its z).yld i H x H' → g x (wipe σ vs) H' fun σ2 H2 => wipe σ2 vs = wipe σ vs ∧ tt σ2 H2 fun b H3 =>
        if b = true then te σ2 H3 fun y H4 => ∃ acc, H4 D = some (.lst acc) ∧ acc.length < sizeLine ∧ Nx (upd H4 D (.lst (acc ++ [y]))) else Nx H3) := by
  refine ⟨fun i m H => m = z.cps.size - i ∧ i ≤ z.cps.size ∧ Pv i H, ⟨_, rfl, Nat.zero_le _, h0⟩, ?_⟩
  rintro i m H ⟨rfl, hi, p⟩
  by_cases hlt : i < z.cps.size
  · refine .inr ⟨hlt, fun H' => Pv (i + 1) H', fun H' q => ⟨z.cps.size - (i + 1), by omega, rfl, hlt, q⟩, fun x H' hy => ?_⟩
    obtain ⟨rfl, c, hc, rfl⟩ := hy
    exact hs i c H' (by rw [Array.getElem?_toList]; exact hc) p
  · have ei : i = z.cps.size := by omega
    subst ei
    exact .inl ⟨Nat.le_refl _, hd H (by rw [Array.length_toList]; exact p)⟩
theorem mem_sign {c : Nat} {z : Str} {p : Prop} (h : (c ∈ z.cps.toList) = p) : (c ∈ z.cps.toList) = p := h
/-- ''.join -/
theorem join0_list : ∀ ys : List Str, (Txt.join "" ys).cps.toList = (ys.map fun y => y.cps.toList).flatten
  | [] => rfl
  | y :: ys => by
    have key : ∀ (l : List Str) (acc : Array Nat), (l.foldl (fun acc p => acc ++ (("" : Str)).cps ++ p.cps) acc).toList = acc.toList ++ (l.map fun y => y.cps.toList).flatten := by
      intro l
      induction l with
      | nil => intro acc; simp
      | cons a l ih =>
        intro acc
        rw [List.foldl_cons, ih]
        have e : (("" : Str)).cps = #[] := rfl
        rw [e]
        simp
    exact key ys y.cps
mutual
theorem dp_mono {K : PySem.W.Frag} {H H' : Hp} (hl : ∀ a xs, SqL K H a xs → SqL K H' a xs) (ht : ∀ a xs, SqT K H a xs → SqT K H' a xs) : ∀ (d : PyData) (v : V), Dp K H v d → Dp K H' v d
  | .none, _, h => by cases h; exact .non
  | .bool b, _, h => by cases h; exact .bl b
  | .int i, _, h => by cases h; exact .int i
  | .str x, _, h => by cases h; exact .str x
  | .list ds, _, h => by
    cases h with
    | lst hs ha => exact .lst (hl _ _ hs) (dp_monoAll hl ht ds _ ha)
  | .tuple ds, _, h => by
    cases h with
    | tup hs ha => exact .tup (ht _ _ hs) (dp_monoAll hl ht ds _ ha)
  | .dict _, _, h => by cases h
theorem dp_monoAll {K : PySem.W.Frag} {H H' : Hp} (hl : ∀ a xs, SqL K H a xs → SqL K H' a xs) (ht : ∀ a xs, SqT K H a xs → SqT K H' a xs) : ∀ (ds : List PyData) (vs : List V), DpAll K H vs ds → DpAll K H' vs ds
  | [], _, h => by cases h; exact .nil
  | d :: ds, _, h => by
    cases h with
    | cons h1 h2 => exact .cons (dp_mono hl ht d _ h1) (dp_monoAll hl ht ds _ h2)
end
theorem rd_keep {H H' : Hp} {b a : Addr} {o : HO} (hk : ∀ a o, a ≠ b → H a = some o → H' a = some o) (hb : ∃ kvs, H b = some (.dK kvs)) (no : ∀ kvs, o ≠ .dK kvs) (h : Rd H a o) : Rd H' a o := by
  obtain ⟨kvs, hb⟩ := hb
  rcases h with h | ⟨ob, h⟩
  · refine .inl (hk a o (fun e => ?_) h)
    rw [e, hb] at h
    exact no kvs (Option.some.inj h).symm
  · refine .inr ⟨ob, hk a _ (fun e => ?_) h⟩
    rw [e, hb] at h
    cases h
theorem dp_same {K : PySem.W.Frag} {H H' : Hp} {d : PyData} {v : V} (s : Same H H') (h : Dp K H v d) : Dp K H' v d := by
  refine dp_mono (fun _ _ q => s.seq q) (fun a xs q => ?_) d v h
  rcases q with (q | ⟨ob, q⟩) | q
  · exact .inl (.inl (s _ _ q))
  · exact .inl (.inr ⟨ob, s _ _ q⟩)
  · exact .inr q
theorem dp_kp {K : PySem.W.Frag} {b : Addr} {H H' : Hp} {d : PyData} {v : V} (B : Bag H b) (k : Kp b H H') (h : Dp K H v d) : Dp K H' v d := by
  refine dp_mono (fun a xs q => ?_) (fun a xs q => ?_) d v h
  · rcases q with q | q
    · exact .inl (rd_keep k.keep B.some (fun _ e => by cases e) q)
    · exact .inr q
  · rcases q with q | q
    · exact .inl (rd_keep k.keep B.some (fun _ e => by cases e) q)
    · exact .inr q
/-- data that repr shows -/
structure Shw (K : PySem.W.Frag) (H : Hp) (v : V) (d : PyData) : Prop where
  dp : Dp K H v d
  sh : d.showable = true
  nd : d.hasDict = false
  dep : d.depth ≤ 50
  len : d.shown.length ≤ sizeLine
  ok : isF (.str d.shown) = true
theorem Shw.same {K : PySem.W.Frag} {H H' : Hp} {d : PyData} {v : V} (s : Same H H') (h : Shw K H v d) : Shw K H' v d := ⟨dp_same s h.dp, h.sh, h.nd, h.dep, h.len, h.ok⟩
theorem Shw.kp {K : PySem.W.Frag} {b : Addr} {H H' : Hp} {d : PyData} {v : V} (B : Bag H b) (k : Kp b H H') (h : Shw K H v d) : Shw K H' v d := ⟨dp_kp B k h.dp, h.sh, h.nd, h.dep, h.len, h.ok⟩
end Fx
/-! x == y by an own __eq__; own methods and makers in a try's body; a def that is given the caught error -/
namespace Fx
open PySem PySem.Spec PyProof.Rows L2
section
variable {X : Cx} {CX : CXT} {k : Nat} {C : Addr} {ps : List Str} {sp : Sp} {E : XK}
/-- x == y, both of the class at C -/
def rOwnEq (C : Addr) (sp : Sp) (E : XK) : R2 := fun x y H Q => ∃ a b dx dy fs gs, x = .ref a ∧ y = .ref b ∧ H a = some (.ins C dx fs) ∧ H b = some (.ins C dy gs) ∧ sp [.ref a, .ref b] H (fun v H' => ∃ r, v = .bl r ∧ Q (.bl r) H') E
theorem op_eqOwn (M : CalM X.prog X.w X.K X.mg X.base CX k C "__eq__" ps sp) (hr : Room k X.A) (hx : Passes CX X E) : OpR X (compareOp .Eq) (rOwnEq C sp E) := by
  intro pins s σ H x y v u Q I rx ry hq
  obtain ⟨f, fd, m, b, F⟩ := M.ex
  obtain ⟨a, c, dx, dy, fs, gs, rfl, rfl, ha, hc, hsp⟩ := hq
  cases rx
  cases ry
  obtain ⟨mA, J, _⟩ := ins_get I.hok ha
  obtain ⟨mB, J', _⟩ := ins_get I.hok hc
  obtain ⟨od, J, _⟩ := J.look
  obtain ⟨od', J', _⟩ := J'.look
  obtain ⟨mm, hF⟩ := I.fr
  show wpAny (model X.prog X.w) X.A (richCompare .Eq (.ref a) (.ref c)) (EP X pins σ Q) X.xe s
  refine PySem.W.cmp_K (op := .Eq) (tb := .ref C) hr.units0 hF I.ok.mod.kin J J'.type (by simp [PySem.W.notFirst]) m.at_ m.fn ?_
  refine wpAny_mono (run_fn (us := [.ref a, .ref c]) (vs := [.ref a, .ref c]) (ds := []) (dvs := []) (Q := fun v H' => ∃ r, v = .bl r ∧ Q (.bl r) H') F hr b .nil hx I (.cons rfl (.cons rfl .nil)) hsp) (fun v s' hv => ?_) fun _ _ z => z
  obtain ⟨z, H', I', rz, r, rfl, q⟩ := hv
  cases rz
  exact ⟨.bl r, H', I', rfl, q⟩
end
/-! ### in a try's body -/
section
variable {X : Cx} {k : Nat} {f C : Addr} {fd : FuncData} {ps : List Str} {sp : Sp} {W : WX} {x m : Str} {p pos apos : Pos} {e o : Expr} {es : List Expr} {ta : TE} {t : TA}
def tMethT (C : Addr) (m : Str) (sp : Sp) (E : L2.St → XK) (ta : TE) (t : TA) : TE := fun σ H Q => ta σ H fun x H1 => ∃ a dx fs, x = .ref a ∧ H1 a = some (.ins C dx fs) ∧ fs.lookup m = none ∧ t σ H1 fun vs H2 => sp (x :: vs) H2 Q (E σ)
theorem pe_methT {pl : Sem Bool} (he : PE X o ta) (c : Cls X.K C) (hm : Meth X.K C m f) (F : FnOk X.prog X.w X.K X.mg X.base (L2.CX X.prog X.w) k f fd ps sp) (hr : Room k X.A) (hb : Binds X.K fd ps []) (tk : Takes X W) (ha : PA X (e :: es) t)
    (hst : starEach (e :: es) X.env = (false, eval e X.env) :: starEach es X.env := by rfl) (hpl : (backTo pos (starEach es X.env)).any (·.1) = false := by rfl)
    (ht : eval (.Call (.Attribute o m apos) (e :: es) [] pos) X.env = (do
      let ov ← eval o X.env
      standAt apos.atName
      let (f, first) ← holding [ov] (getMethod ov m pl)
      callWith pos f first (backTo pos (starEach (e :: es) X.env)) (backToKw pos (keywordEach [] X.env))) := by rfl) :
    PE X (.Call (.Attribute o m apos) (e :: es) [] pos) (tMethT C m sp (WE W) ta t) := by
  refine ⟨fun pins s σ H Q I h => ?_⟩
  refine PySem.W.methodCall_KW (pl := pl) (thn (he.run pins s σ H _ I h) fun u s1 ⟨x, H1, I1, rx, a, dx, fs, ex, ea, l, q⟩ => ?_) ht
  subst ex
  obtain rfl : u = Value.ref a := rx
  refine getmeth_ok I1 ea c hm l ?_
  refine PySem.W.callWith_K (first := [.ref a]) (h₀ := X.base) I.ok.mod.kin hm.kp (thn (ha.run pos pins s1 σ H1 _ I1 q) fun us s2 ⟨vs, H2, I2, r, q2⟩ => ⟨I2.kIn, ?_⟩) hst hpl
  exact run_fnS (us := .ref a :: us) (vs := .ref a :: vs) (E := WE W) F hr hb (passAt tk σ) I2 (.cons rfl r) q2
/-- C(..) -/
def tMakeT (C : Addr) (sp : Sp) (E : L2.St → XK) (t : TA) : TE := fun σ H Q => t σ H fun vs H1 => ∀ x dx, H1 x = none → H1 dx = none → dx ≠ x →
  sp (.ref x :: vs) (upd (upd H1 dx (.own x)) x (.ins C dx [])) (fun v H2 => v = .non ∧ Q (.ref x) H2) (E σ)
theorem pe_mkT (M : CalI X.prog X.w X.K X.mg X.base (L2.CX X.prog X.w) k C ps sp) (hr : Room (k + 1) X.A) (hm : X.mg x = some (.ref C)) (tk : Takes X W) (ha : PA X (e :: es) t) (hg : Gl X x := by rfl) (hdb : (x == ("__debug__" : Str)) = false := by decide)
    (hs : (e :: es).all nostar = true := by rfl) : PE X (.Call (.Name x p) (e :: es) [] pos) (tMakeT C sp (WE W) t) := by
  obtain ⟨f, fd, m, b, F⟩ := M.ex
  simp only [List.all_cons, Bool.and_eq_true] at hs
  refine ⟨fun pins s σ H Q I h => ?_⟩
  refine wpAny_Call_Name_kw (ld_glob I hg hm ?_ hdb)
  refine PySem.W.callWith_K (h₀ := X.base) I.ok.mod.kin m.kp (thn (ha.run pos pins s σ H _ I h) fun us s1 ⟨vs, H1, I1, r, q⟩ => ⟨I1.kIn, ?_⟩) (star_ok hs.1) (back_ok hs.2)
  have hq := q (s1.heap.objs.size + 1) s1.heap.objs.size (I1.hok.fresh (Nat.le_succ _)) (I1.hok.fresh (Nat.le_refl _)) (Nat.ne_of_lt (Nat.lt_succ_self _))
  have I2 := Inv.made (C := C) I1
  have r2 : Vals (V.ref (s1.heap.objs.size + 1) :: vs) (Value.ref (s1.heap.objs.size + 1) :: us) := .cons rfl r
  have hl : (Value.ref (s1.heap.objs.size + 1) :: us).length = ps.length := by
    have e := r2.length
    rw [F.len _ _ _ _ hq] at e
    exact e.symm
  have b2 := b _ (Value.ref (s1.heap.objs.size + 1) :: us) I2.kIn (by rw [List.append_nil]; exact hl)
  rw [List.append_nil] at b2
  refine wpAny_call (make_map (f := f) I1.kIn m.makes m.init (beq_iff_eq.mp m.fn) (codeAny_mono (F.run _ X.stack _ _ ⟨Value.ref (s1.heap.objs.size + 1) :: us, []⟩ (Value.ref (s1.heap.objs.size + 1) :: us) _ _ (WE W σ) (hr.make C us [])
    (I2.env0.make C us []) b2 r2 hq) fun r s' hq' => ?_))
  cases r with
  | error e => exact passAt tk σ pins _ _ e s' I2 hq'
  | ok fl =>
    cases fl with
    | ret u =>
      obtain ⟨v, H', I3, rv, ev, q3⟩ := I2.after hq'
      subst ev
      exact ⟨rv, ⟨V.ref (s1.heap.objs.size + 1), H', I3, rfl, q3⟩⟩
    | next => exact False.elim hq'
    | brk => exact False.elim hq'
    | cont => exact False.elim hq'
end
/-! ### a def that is given the error which the caller's suite holds -/
abbrev SpE := Addr → Value → Option Addr → Hp → VK → Prop
structure FnE (P : Program) (w : World) (K : PySem.W.Frag) (mg : Str → Option Value) (base : Heap) (k : Nat) (f : Addr) (fd : FuncData) (x : Str) (sp : SpE) : Prop where
  run : ∀ (A : Around) (outer : List Env) (s : Shared) (H : Hp) (args : Args) (Q : VK) (a : Addr) (oe : Obj) (cls : Value) (d : Option Addr), L2H.RoomH k A → L2H.PinOk outer H s (a, oe) → Zc cls d oe → (∃ vs, oe.data = .fields vs) → Env0 P w K mg base A outer s H →
    BindsTo s fd args [(x, .ref a)] → sp a cls d H Q → codeAny (model P w) A (.call (.ref f) args) (CR CX0 outer P w H s Q E0) s
/-- the context of its body -/
abbrev cxE (P : Program) (w : World) (K : PySem.W.Frag) (mg : Str → Option Value) (base : Heap) (N : List Str) (qual : Str) (scope : Scope) (f : Addr) (cd : Value) (A : Around) (outer : List Env) (s : Shared) (H : Hp) (p : Addr × Obj) : Cx :=
  (L2H.cxH CX0 P w K mg base N qual scope f cd A outer s H E0 p).nox
theorem fn_ofE {P : Program} {w : World} {K : PySem.W.Frag} {mg : Str → Option Value} {base : Heap} {k : Nat} {f : Addr} {name qual : Str} {params : Arguments} {body : List Stmt} {scope : Scope} {dV kV doc pm cdv ct oc : Value} {an od : Option Addr}
    {osl : Array (Option Value)} {N : List Str} {x : Str} {sp : SpE} (lk : K.lookup f = some ⟨oc, od, .func (PySem.W.fnOf name qual params body scope dV kV doc pm an cdv ct), osl⟩) (hcd : PySem.W.codeIn K cdv qual = true) (S : FnScope N [x] scope)
    (hbody : ∀ (A : Around) (outer : List Env) (s : Shared) (H : Hp) (Q : VK) (a : Addr) (oe : Obj) (cls : Value) (d : Option Addr), L2H.RoomH k (A.deeper (envOfC qual scope s.heap.objs.size f cdv)) → Zc cls d oe → (∃ vs, oe.data = .fields vs) → sp a cls d H Q →
      ∃ t, PSs (cxE P w K mg base N qual scope f cdv A outer s H (a, oe)) body t ∧ t { nx := fun _ H' => Q .non H', rt := Q } (L2.start N [.ref a]) H) :
    FnE P w K mg base (k + 1) f (PySem.W.fnOf name qual params body scope dV kV doc pm an cdv ct) x sp := by
  refine ⟨fun A outer s H args Q a oe cls d hr hpin hz hf e0 hb hsp => ?_⟩
  have KX : K.In s.heap := e0.mod.kin.keeps fun b o e => (e0.bs b o e).1
  have lim : s.heap.NoLimit := e0.mod.nolimit.keeps fun b o e => (e0.bs b o e).1
  have hkind : ∀ y ∈ [(x, Value.ref a)], scope.names.lookup y.1 = some .local ∨ (scope.names.lookup y.1 = some .cell ∧ ((cellsFrom (s.heap.objs.size + 1) scope.names []).lookup y.1).isSome = true) := fun y hy => by
    have ey : y = (x, Value.ref a) := List.mem_singleton.mp hy
    rw [ey]
    rcases S.par x List.mem_cons_self with q | q
    · exact .inl q
    · exact .inr ⟨q, PySem.W.cellsFrom_some _ _ _ (.inl q)⟩
  refine codeAny_call_function hr.depth (KX _ _ lk) rfl S.co S.gen rfl (PySem.W.codeRec_of KX hcd) (hb _ _ _ _ ?_)
  refine wpAny_newFunctionEnv_cells S.kind hkind fun env he s1 y => ?_
  subst he
  refine ⟨lim.keeps y.toInCall.keep, codeAny_func ?_⟩
  obtain ⟨t, ht, hq⟩ := hbody A outer s H Q a oe cls d (hr.deeper _) hz hf hsp
  have I : Inv (L2H.cxH CX0 P w K mg base N qual scope f cdv A outer s H E0 (a, oe)) [] (L2.start N [.ref a]) H s1 := L2H.inv_startH (us := [.ref a]) S hpin e0 rfl (.cons rfl .nil) y
  refine wpAny_mono (ht.nox.run [] s1 (L2.start N [.ref a]) H _ I hq) (fun fl s' hs => ?_) fun e s' hs => hs
  have fin : ∀ {σ' : L2.St} {H' : Hp} {v : V} {u : Value}, Inv (L2H.cxH CX0 P w K mg base N qual scope f cdv A outer s H E0 (a, oe)) [] σ' H' s' → RelV v u → Q v H' → CE outer P w H s Q u s' :=
    fun {σ' H' v u} J rv q => ⟨v, H', J.os, J.bare, J.base, J.hok, rv, q⟩
  cases fl with
  | ret u =>
    obtain ⟨v, σ', H', J, rv, q⟩ := hs
    exact fin J rv q
  | next =>
    obtain ⟨σ', H', J, q⟩ := hs
    exact fin (v := V.non) (u := Value.none) J rfl q
  | brk =>
    obtain ⟨_, _, _, q⟩ := hs
    exact False.elim q
  | cont =>
    obtain ⟨_, _, _, q⟩ := hs
    exact False.elim q
structure CalE (P : Program) (w : World) (K : PySem.W.Frag) (mg : Str → Option Value) (base : Heap) (k : Nat) (x : Str) (ps : List Str) (sp : SpE) : Prop where
  ex : ∃ f fd y, ps = [y] ∧ mg x = some (.ref f) ∧ PySem.W.keepIn K (.ref f) = true ∧ Binds K fd [y] [] ∧ FnE P w K mg base k f fd y sp
theorem Src.calE {P : Program} {w : World} {K : PySem.W.Frag} {mg : Str → Option Value} {base : Heap} {x y : Str} {st : Stmt} {N : List Str} {k : Nat} {sp : SpE} (S : Src K mg x st) (sc : FnScope N [y] (defScope st)) (bn : BindP x st [y])
    (hbody : ∀ (f : Addr) (cdv : Value) (A : Around) (outer : List Env) (s : Shared) (H : Hp) (Q : VK) (a : Addr) (oe : Obj) (cls : Value) (d : Option Addr), L2H.RoomH k (A.deeper (envOfC x (defScope st) s.heap.objs.size f cdv)) → Zc cls d oe → (∃ vs, oe.data = .fields vs) → sp a cls d H Q →
      ∃ t, PSs (cxE P w K mg base N x (defScope st) f cdv A outer s H (a, oe)) (defBody st) t ∧ t { nx := fun _ H' => Q .non H', rt := Q } (L2.start N [.ref a]) H) : CalE P w K mg base (k + 1) x [y] sp := by
  obtain ⟨f, fd, g, F⟩ := S
  have b := F.bindsN bn
  have kp := F.kp
  obtain ⟨oc, od, dV, kV, doc, pm, an, cdv, ct, osl, rfl, lk, hcd, _, _⟩ := F.ex
  exact ⟨f, _, y, rfl, g, kp, b, fn_ofE lk hcd sc fun A outer s H Q a oe cls d hr hz hf hsp => hbody f cdv A outer s H Q a oe cls d hr hz hf hsp⟩
section
variable {X : Cx} {k : Nat} {x : Str} {ps : List Str} {sp : SpE} {p pos : Pos} {e : Expr} {te : TA} {a : Addr} {oe : Obj} {cls : Value} {d : Option Addr} {pn : List (Addr × Obj)}
def tCallE (a : Addr) (cls : Value) (d : Option Addr) (sp : SpE) (te : TA) : TE := fun σ H Q => te σ H fun vs H1 => vs = [.ref a] ∧ sp a cls d H1 Q
/-- f(err) in the suite -/
theorem pe_calE (C : CalE X.prog X.w X.K X.mg X.base k x ps sp) (hr : Room k X.A) (hz : Zc cls d oe) (hf : ∃ vs, oe.data = .fields vs) (ha : PA (X.suite a ((a, oe) :: pn)) [e] te) (hg : Gl (X.suite a ((a, oe) :: pn)) x := by rfl) (hdb : (x == ("__debug__" : Str)) = false := by decide)
    (hs : nostar e = true := by rfl) : PE (X.suite a ((a, oe) :: pn)) (.Call (.Name x p) [e] [] pos) (tCallE a cls d sp te) := by
  obtain ⟨f, fd, y, _, g, kp, b, F⟩ := C.ex
  refine ⟨fun pins s σ H Q I h => ?_⟩
  refine wpAny_Call_Name_kw (ld_glob I hg g ?_ hdb)
  refine PySem.W.callWith_K (h₀ := X.base) I.ok.mod.kin kp (thn (ha.run pos pins s σ H _ I h) fun us s1 ⟨vs, H1, I1, r, ev, q⟩ => ⟨I1.kIn, ?_⟩) (star_ok hs) rfl
  subst ev
  cases r with
  | cons rx rr =>
    cases rr
    cases rx
    have P1 := I1.pin (a, oe) (List.mem_append_left _ List.mem_cons_self)
    have hpin : L2H.PinOk X.stack H1 s1 (a, oe) := ⟨P1.1, P1.2.1, fun hm => (List.mem_cons.mp (I1.stkSub a hm)).elim P1.2.2.1 P1.2.2.2.1, P1.2.2.2.2⟩
    have bb := b s1 [.ref a] I1.kIn rfl
    refine wpAny_call (codeAny_mono (F.run (X.suite a ((a, oe) :: pn)).A X.stack s1 H1 ⟨[.ref a], []⟩ Q a oe cls d ⟨hr.dp, hr.un⟩ hpin hz hf I1.env0 bb q) fun r s' hq => ?_)
    cases r with
    | error e => exact False.elim hq
    | ok fl =>
      cases fl with
      | ret u => exact I1.after hq
      | next => exact False.elim hq
      | brk => exact False.elim hq
      | cont => exact False.elim hq
end
/-- isinstance(err, (C1, C2, ..)) -/
def rIsYT (K : PySem.W.Frag) (a : Addr) (cls : Value) (d : Option Addr) : List V → Hp → VK → Prop := fun xs H Q => ∃ tp, xs = [.ref a, .ref tp] ∧ ∃ D, cls = .ref D ∧ ∃ dd, d = some dd ∧ (∃ fs, H dd = some (.xd fs)) ∧ ExcC K D ∧
  ∃ cs, H tp = some (.tup cs) ∧ ∃ us, cs.map clsVal = us.map some ∧ ∃ b, PySem.W.kitAny K (.ref D) us = some b ∧ Q (.bl b) H
theorem cls_vals : ∀ {cs : List V} {us ws : List Value}, cs.map clsVal = us.map some → Vals cs ws → ws = us
  | [], [], _, _, .nil => rfl
  | [], _ :: _, _, h, _ => by cases h
  | _ :: _, [], _, h, _ => by cases h
  | c :: cs, u :: us, _, h, .cons r rr => by
    simp only [List.map_cons, List.cons.injEq] at h
    have e2 := cls_vals h.2 rr
    subst e2
    congr 1
    have h1 := h.1
    cases c with
    | ref C2 => cases h1; exact r
    | ty n => cases h1; exact r
    | _ => cases h1
theorem call_isYT {X : Cx} {a : Addr} {oe : Obj} {cls : Value} {d : Option Addr} (hp : (a, oe) ∈ X.pn) (hz : Zc cls d oe) (hf : ∃ vs, oe.data = .fields vs) : CallR X (.builtin "isinstance") (rIsYT X.K a cls d) := by
  intro pins s σ H xs us Q I r h
  obtain ⟨tp, rfl, D, rfl, dd, rfl, ⟨fs, hdd⟩, C, cs, hT, ws, hcs, b, e, q⟩ := h
  cases r with
  | cons rx rr =>
    cases rr with
    | cons rt rr =>
      cases rr
      cases rx
      cases rt
      obtain ⟨hget, _⟩ := I.pin (a, oe) (List.mem_append_left _ hp)
      obtain ⟨vs, hv⟩ := hf
      have hx : ObjOk X.prog X.w H s.heap dd (.xd fs) := I.hok dd _ hdd
      obtain ⟨mA, ⟨od, es, ep, ho, hrest⟩, hr⟩ := hx
      have J : PySem.W.InstAt s.heap a oe D (some od) := ⟨hget, hz.1, by unfold PySem.W.notCls; rw [hv] <;> rfl, by rw [hz.2]; exact ho⟩
      obtain ⟨_, its, rv, o, h1, h2, n, h3⟩ := (show ObjOk X.prog X.w H s.heap tp (.tup cs) from I.hok tp _ hT)
      have e3 := cls_vals hcs rv
      subst e3
      obtain ⟨oc, od2, dt, sl⟩ := o
      simp only at h2 h3
      subst h2 h3
      exact PySem.W.kia_tup (PySem.W.fx_kitx C.hg C.hk C.hs C.hd C.ha C.hn C.ht C.hm) I.kIn ⟨_, J⟩ h1 e (fun z => nomatch z) fun tk => ⟨.bl b, H, I.kept (t' := tk) fun _ _ z => z, rfl, q⟩
end Fx
namespace Fx
open PySem PySem.Spec PyProof.Rows L2
/-- // of any sign -/
def CDivZ (_ j : Int) : Prop := j ≠ 0 ∧ j.natAbs.log2 < 9000
section
variable {X : Cx}
theorem op_fdivZ : OpR X (binaryOp .FloorDiv) (rI CDivZ fun i j => .int (i.fdiv j)) := opI fun i j _ _ _ _ _ hc q => floordiv_int hc.1 q (.inl (PyProof.noPylong_of_log2 hc.2))
def rIntB : List V → Hp → VK → Prop := fun xs H Q => ∃ k, xs = [.bl k] ∧ Q (.int (if k = true then 1 else 0)) H
theorem int_B : CallR X (.type "int") rIntB := CallR.imp call_int1 fun xs H Q h => .inr h
/-- a callee that may raise, and does not -/
theorem passX : Passes (L2.CX X.prog X.w) X E0 := fun _ _ _ _ _ _ _ h => by
  obtain ⟨_, _, _, _, _, _, _, _, _, _, _, _, hE⟩ := h
  exact hE.elim
end
theorem cdivZ_of {i j : Int} (h0 : j ≠ 0) (h : j.natAbs < 2 ^ 64) : CDivZ i j := ⟨h0, Nat.lt_trans (PySem.Flt.log2_lt_of (by decide) h) (by decide)⟩
theorem Bag.ins {H : Hp} {b : Addr} (B : Bag H b) {a C dx : Addr} {fs : List (Str × V)} (h : H a = Option.some (.ins C dx fs)) : a ≠ b := by
  obtain ⟨c, ns, x, r, m, n, h1, _⟩ := B
  exact ne_of h h1 (by intro z; cases z)
theorem Kp.ins {H H1 : Hp} {b : Addr} (x : Kp b H H1) (B : Bag H b) {a C dx : Addr} {fs : List (Str × V)} (h : H a = Option.some (.ins C dx fs)) : H1 a = Option.some (.ins C dx fs) := x.keep _ _ (B.ins h) h
end Fx
namespace Fx
open PySem PySem.Spec PyProof.Rows L2
/-- isinstance(o, C), o an instance of an own class -/
def rIsI (K : PySem.W.Frag) : List V → Hp → VK → Prop := fun xs H Q => ∃ a c, xs = [.ref a, c] ∧ ∃ D dx fs, H a = some (.ins D dx fs) ∧ C8.InsC K D ∧ ∃ cv, clsVal c = some cv ∧ ∃ b, PySem.W.kitOne K (.ref D) cv = some b ∧ Q (.bl b) H
theorem is_I {X : Cx} : CallR X (.builtin "isinstance") (rIsI X.K) := by
  intro pins s σ H xs us Q I r h
  obtain ⟨a, c, rfl, D, dx, fs, ha, k, cv, hcv, b, hb, q⟩ := h
  obtain ⟨u, w', rfl, ru, rw'⟩ := vals2 r
  have e : w' = cv := by
    cases c with
    | ref C2 => cases hcv; exact rw'
    | ty n => cases hcv; exact rw'
    | _ => cases hcv
  subst e
  exact isinst_ok I ru (TyOf.ins ha k.cl k.ha k.hn k.htk k.hm) hb fun tk => ⟨.bl b, H, I.tok _, rfl, q⟩
def insB (K : PySem.W.Frag) (C : Addr) : Bool := decide (PySem.W.findIn K (.ref C) "__class__" = some (some (.builtin "object.__class__"))) && (decide (PySem.W.specialIn K (.builtin "object.__class__") "__get__" = some (some (.builtin "getset_descriptor.__get__"))) &&
  (decide (PySem.W.takesIn K (.builtin "object.__class__") = some true) && (decide (PySem.W.mroIn K C (.type "object") = some true) && decide (PySem.W.kitOne K (.ref C) (.ref C) = some true))))
theorem insC_of {K : PySem.W.Frag} {C : Addr} (cl : Cls K C) (h : insB K C = true) : C8.InsC K C := by
  obtain ⟨h1, h⟩ := He.ba h
  obtain ⟨h2, h⟩ := He.ba h
  obtain ⟨h3, h⟩ := He.ba h
  obtain ⟨h4, h5⟩ := He.ba h
  exact ⟨cl, of_decide_eq_true h1, of_decide_eq_true h2, of_decide_eq_true h3, of_decide_eq_true h4, of_decide_eq_true h5⟩
end Fx
namespace Fx
open PySem PySem.Spec PyProof.Rows L2
/-- the loop over a list or a tuple that stays, by an invariant -/
theorem forQ {K : PySem.W.Frag} {a : Addr} {xs : List V} {j : Nat} {g : TG} {tb : TS} {D : Ends} {σ : L2.St} {H : Hp} (hv : σ[j]? = some (some (.ref a))) (hq : Sq H a xs) (Pv : Nat → L2.St → Hp → Prop) (h0 : Pv 0 σ H) (hS : ∀ i σ H', Pv i σ H' → Same H H')
    (hs : ∀ i x σ H, xs[i]? = some x → Pv i σ H → g x σ H fun σ2 H2 => tb { D with nx := Pv (i + 1), ct := Pv (i + 1), bk := D.nx } σ2 H2) (hd : ∀ σ H, Pv xs.length σ H → D.nx σ H) : tFor (iQ K (tVar j)) g tb D σ H := by
  rcases hq with hq | hq
  · exact .inl ⟨_, hv, a, rfl, ⟨_, .inl (.inl hq)⟩, for_list (K := K) (a := a) (xs := xs) Pv h0 (fun i σ H' _ p => .inl (.inl (hS i σ H' p _ _ hq))) hs hd⟩
  · exact .inr ⟨_, hv, a, rfl, ⟨_, .inl (.inl hq)⟩, for_tup (K := K) (a := a) (xs := xs) Pv h0 (fun i σ H' _ p => .inl (.inl (hS i σ H' p _ _ hq))) hs hd⟩
end Fx
namespace Fx
open PySem PySem.Spec PyProof.Rows L2
/-- a statement first; what follows stays folded -/
theorem nxI {t : TS} {D : Ends} {σ : L2.St} {H : Hp} (h : ∀ K : L2.St → Hp → Prop, (∀ σ H, D.nx σ H → K σ H) → t { D with nx := K } σ H) : t D σ H := h D.nx fun _ _ x => x
end Fx
/-! Instances of own classes under the operators: len(o), o[i], x in o, o | p, o != p, list(o) -/
namespace PySem.W
open PySem PySem.Spec PySem.Calls PyProof.Rows
section
variable {prog : Program} {w : World} {A : Around} {E : Value → Shared → Prop} {s : Shared} {K : Frag} {x C L f : Addr} {h₀ : Heap} {m : Str → Option Value} {ox : Obj} {od : Option Obj} {b tb : Value}
theorem fx_ne_K {Q : Value → Shared → Prop} (hu : A.units + 1 < cLine) (F : Fr h₀ L s.heap m) (X₀ : K.In h₀) (I : InstAt s.heap x ox C od) (hb : Looks (model prog w) s.heap (typeOf b) tb) (hn : notFirst K C tb = true)
    (hs : findIn K (.ref C) "__ne__" = some (some (.builtin "object.__ne__"))) (hq : findIn K (.ref C) "__eq__" = some (some (.ref f))) (hf : isFn K (.ref f) = true) (ho : subIn K (.ref C) (.type "object") = some true)
    (h : wpAny (model prog w) A.in1 (call (.ref f) [.ref x, b]) (fun v s' => ∃ r, v = .bool r ∧ Q (.bool (!r)) s') E s) : wpAny (model prog w) A (richCompare .NotEq (.ref x) b) Q E s := by
  have X := X₀.keeps F.keep
  have fin : wpAny (model prog w) A (call (.builtin "object.__ne__") [.ref x, b]) (fun v s' => ∃ r, v = .bool r ∧ Q v s') E s := by
    refine wpAny_call (codeAny_call_builtin PySem.F.cmp_object.ne.plain PySem.F.cmpEntry_ne ?_)
    refine check_slot (i := "object.__ne__") (owner := "object") (n := "__ne__") PySem.F.cmpKind_ne PySem.F.cmpSplit_ne (I.type.andThen (looks_subIn X ho)) (PySem.F.cmpArgs_ne _ _) ?_
    unfold Builtin.«object.__ne__»
    refine wpAny_bind (wpAny_of_eq (a := ((Value.ref x : Value), [b])) (by first | rfl | (simp only [slotArgs]; rfl)) ?_)
    refine wpAny_bind (wpAny_cRoomFor (show A.in1.units < cLine from hu) ?_)
    refine wpAny_bind (ifBound_K X I hq hf (wpAny_mono h (fun v s' hv => ?_) fun _ _ e => e))
    obtain ⟨r, rfl, q⟩ := hv
    refine wpAny_bind (m := truthy (.bool r)) (wpAny_truthy_bool ?_)
    first | exact wpAny_pure ⟨_, rfl, ⟨_, rfl, q⟩⟩ | exact wpAny_pure ⟨_, rfl, q⟩ | exact wpAny_pure q
  have one : wpAny (model prog w) A (tryCompare (.ref x) "__ne__" b) (fun r s' => ∃ v, r = some v ∧ Q v s') E s := by
    unfold tryCompare
    have fin2 : wpAny (model prog w) A (call (.builtin "object.__ne__") ([.ref x] ++ [b]) >>= fun v => pure (some v)) (fun r s' => ∃ c, r = some (.bool c) ∧ Q (.bool c) s') E s := wpAny_bind (wpAny_mono fin (fun v s' hv => by
      obtain ⟨r, rfl, q⟩ := hv
      exact wpAny_pure ⟨_, rfl, q⟩) fun _ _ e => e)
    have two : wpAny (model prog w) A (callSpecialIfBound? (.ref x) "__ne__" [b]) (fun r s' => ∃ c, r = some (.bool c) ∧ Q (.bool c) s') E s := by
      simp only [callSpecialIfBound?, bindSpecialIfBound?]
      refine wpAny_holding (wpAny_bind (wpAny_bind (wpAny_bind (I.type.here ((looks_findIn X hs).here ?_)))))
      refine wpAny_bind (wpAny_askSetting (wpAny_ite ?_))
      split
      · rw [PySem.F.cmp_object.ne.bind]
        exact wpAny_bind (wpAny_pure (wpAny_pure (by exact fin2)))
      · rw [PySem.F.cmp_object.ne.bind]
        exact wpAny_tryCatch (wpAny_bind (wpAny_pure (wpAny_pure (by exact fin2))))
    refine wpAny_bind (wpAny_mono two (fun r s' hv => ?_) fun _ _ e => e)
    obtain ⟨c, rfl, q⟩ := hv
    exact wpAny_pure ⟨_, rfl, q⟩
  unfold richCompare
  simp only [oneThing_ref]
  refine wpAny_holding (wpAny_bind (wpAny_cRoomFor (Nat.lt_of_succ_lt hu) ?_))
  refine wpAny_bind (I.type.here (wpAny_bind (hb.here ?_)))
  split
  · rename_i q
    have e : subIn K tb (.ref C) = some false := by
      rcases Bool.or_eq_true_iff.mp hn with e | e
      · rw [beq_iff_eq.mp e] at q; simp at q
      · exact beq_iff_eq.mp e
    refine wpAny_bind ((looks_subIn X e).here ?_)
    simp only [Bool.false_eq_true, if_false]
    refine wpAny_bind (wpAny_mono one (fun r s' z => ?_) fun _ _ e => e)
    obtain ⟨v, rfl, hq⟩ := z
    exact wpAny_pure hq
  · refine wpAny_bind (wpAny_pure ?_)
    simp only [Bool.false_eq_true, if_false]
    refine wpAny_bind (wpAny_mono one (fun r s' z => ?_) fun _ _ e => e)
    obtain ⟨v, rfl, hq⟩ := z
    exact wpAny_pure hq
end
end PySem.W
namespace Fx
open PySem PySem.Spec PyProof.Rows L2
section
variable {X : Cx} {CX : CXT} {k : Nat} {C : Addr} {ps : List Str} {sp : Sp} {E : XK}
/-- the callee runs somewhere below -/
theorem run_fnA {A : Around} {f : Addr} {fd : FuncData} {pins : List (Addr × Obj)} {σ : L2.St} {H : Hp} {s : Shared} {Q : VK} {us : List Value} {vs : List V} (hA : A.frames = X.A.frames) (F : FnOk X.prog X.w X.K X.mg X.base CX k f fd ps sp) (hr : Room k A) (hb : Binds X.K fd ps []) (hx : Passes CX X E)
    (I : Inv X pins σ H s) (r : Vals vs us) (h : sp vs H Q E) : wpAny (model X.prog X.w) A (call (.ref f) us) (EP X pins σ Q) X.xe s := by
  have e0 : Env0 X.prog X.w X.K X.mg X.base A X.stack s H := by
    have e := I.env0
    exact ⟨by rw [hA]; exact e.frames, e.mod, e.bs, e.bsz, e.funs, e.frf, e.hok, e.bare⟩
  have hl : us.length = ps.length := by rw [← r.length]; exact F.len _ _ _ _ h
  have b := hb s us I.kIn (by rw [List.append_nil]; exact hl)
  rw [List.append_nil] at b
  refine wpAny_call (codeAny_mono (F.run A X.stack s H ⟨us, []⟩ us vs Q E hr e0 b r h) fun r s' hq => ?_)
  cases r with
  | error e => exact hx pins σ H s e s' I hq
  | ok fl =>
    cases fl with
    | ret u => exact I.after hq
    | next => exact False.elim hq
    | brk => exact False.elim hq
    | cont => exact False.elim hq
theorem inst_at {pins : List (Addr × Obj)} {σ : L2.St} {H : Hp} {s : Shared} {a dx : Addr} {fs : List (Str × V)} (I : Inv X pins σ H s) (ha : H a = some (.ins C dx fs)) : ∃ ox od, PySem.W.InstAt s.heap a ox C od := by
  obtain ⟨mA, J, _⟩ := ins_get I.hok ha
  obtain ⟨od, J, _⟩ := J.look
  exact ⟨_, _, J⟩
/-- len(o) -/
def rLenO (C : Addr) (sp : Sp) (E : XK) : List V → Hp → VK → Prop := fun xs H Q => ∃ a dx fs, xs = [.ref a] ∧ H a = some (.ins C dx fs) ∧ sp [.ref a] H (fun v H' => ∃ n, v = .int n ∧ 0 ≤ n ∧ n < 2 ^ 63 ∧ Q (.int n) H') E
theorem len_O (M : CalM X.prog X.w X.K X.mg X.base CX k C "__len__" ps sp) (hr : Room (k + 1) X.A) (hx : Passes CX X E) : CallR X (.builtin "len") (rLenO C sp E) := by
  intro pins s σ H xs us Q I rv h
  obtain ⟨a, dx, fs, rfl, ha, hsp⟩ := h
  obtain ⟨f, fd, m, b, F⟩ := M.ex
  obtain ⟨u, rfl, ru⟩ := rv.one
  cases ru
  obtain ⟨ox, od, J⟩ := inst_at I ha
  obtain ⟨mm, hF⟩ := I.fr
  refine PySem.W.len_K hF I.ok.mod.kin J m.at_ m.fn ?_
  refine wpAny_mono (run_fnA (A := X.A.in1) (vs := [.ref a]) (us := [.ref a]) rfl F hr.in1 b hx I (.cons rfl .nil) hsp) (fun v s' hv => ?_) fun _ _ z => z
  obtain ⟨z, H', I', rz, n, rfl, h0, h1, q⟩ := hv
  obtain ⟨t, rfl⟩ := rz
  exact ⟨⟨h0, h1⟩, .int n, H', I'.tok _, ⟨_, rfl⟩, q⟩
/-- x in o -/
def rInO (C : Addr) (sp : Sp) (E : XK) : R2 := fun x y H Q => ∃ a dx fs, y = .ref a ∧ H a = some (.ins C dx fs) ∧ sp [.ref a, x] H (fun v H' => ∃ r, v = .bl r ∧ Q (.bl r) H') E
def rNotInO (C : Addr) (sp : Sp) (E : XK) : R2 := fun x y H Q => ∃ a dx fs, y = .ref a ∧ H a = some (.ins C dx fs) ∧ sp [.ref a, x] H (fun v H' => ∃ r, v = .bl r ∧ Q (.bl (!r)) H') E
theorem in_O (M : CalM X.prog X.w X.K X.mg X.base CX k C "__contains__" ps sp) (hr : Room k X.A) (hx : Passes CX X E) : OpR X (compareOp .In) (rInO C sp E) := by
  intro pins s σ H x y v u Q I rx ry hq
  obtain ⟨f, fd, m, b, F⟩ := M.ex
  obtain ⟨a, dx, fs, rfl, ha, hsp⟩ := hq
  cases ry
  obtain ⟨ox, od, J⟩ := inst_at I ha
  obtain ⟨mm, hF⟩ := I.fr
  refine PySem.W.in_K hF I.ok.mod.kin J m.at_ m.fn ?_
  refine wpAny_mono (run_fnA (vs := [.ref a, x]) (us := [.ref a, v]) rfl F hr b hx I (.cons rfl (.cons rx .nil)) hsp) (fun v s' hv => ?_) fun _ _ z => z
  obtain ⟨z, H', I', rz, r, rfl, q⟩ := hv
  cases rz
  exact wpAny_truthy_bool ⟨.bl r, H', I', rfl, q⟩
theorem notIn_O (M : CalM X.prog X.w X.K X.mg X.base CX k C "__contains__" ps sp) (hr : Room k X.A) (hx : Passes CX X E) : OpR X (compareOp .NotIn) (rNotInO C sp E) := by
  intro pins s σ H x y v u Q I rx ry hq
  obtain ⟨f, fd, m, b, F⟩ := M.ex
  obtain ⟨a, dx, fs, rfl, ha, hsp⟩ := hq
  cases ry
  obtain ⟨ox, od, J⟩ := inst_at I ha
  obtain ⟨mm, hF⟩ := I.fr
  refine PySem.W.notIn_K hF I.ok.mod.kin J m.at_ m.fn ?_
  refine wpAny_mono (run_fnA (vs := [.ref a, x]) (us := [.ref a, v]) rfl F hr b hx I (.cons rfl (.cons rx .nil)) hsp) (fun v s' hv => ?_) fun _ _ z => z
  obtain ⟨z, H', I', rz, r, rfl, q⟩ := hv
  cases rz
  exact wpAny_truthy_bool ⟨.bl (!r), H', I', rfl, q⟩
/-- o op p, both of the class at C -/
def rBinO (C : Addr) (sp : Sp) (E : XK) : R2 := fun x y H Q => ∃ a b dx dy fs gs, x = .ref a ∧ y = .ref b ∧ H a = some (.ins C dx fs) ∧ H b = some (.ins C dy gs) ∧ sp [.ref a, .ref b] H (fun v H' => ∃ r, v = .ref r ∧ Q (.ref r) H') E
theorem bin_O {op : Operator} {mn : Str} (hop : PySem.dunder op.info.2 = mn) (M : CalM X.prog X.w X.K X.mg X.base CX k C mn ps sp) (hc : PySem.W.selfFirst X.K C = true) (hr : Room k X.A) (hx : Passes CX X E) : OpR X (binaryOp op) (rBinO C sp E) := by
  intro pins s σ H x y v u Q I rx ry hq
  obtain ⟨f, fd, m, b, F⟩ := M.ex
  obtain ⟨a, c, dx, dy, fs, gs, rfl, rfl, ha, hb, hsp⟩ := hq
  cases rx
  cases ry
  subst hop
  obtain ⟨ox, od, J⟩ := inst_at I ha
  obtain ⟨oy, od', J'⟩ := inst_at I hb
  obtain ⟨mm, hF⟩ := I.fr
  refine PySem.W.binop_K hF I.ok.mod.kin J J'.type hc m.at_ m.fn ?_
  refine wpAny_mono (run_fnA (vs := [.ref a, .ref c]) (us := [.ref a, .ref c]) rfl F hr b hx I (.cons rfl (.cons rfl .nil)) hsp) (fun v s' hv => ?_) fun _ _ z => z
  obtain ⟨z, H', I', rz, r, rfl, q⟩ := hv
  cases rz
  exact ⟨.ref r, H', I', rfl, q⟩
/-- o != p by the own __eq__ -/
def rNeO (C : Addr) (sp : Sp) (E : XK) : R2 := fun x y H Q => ∃ a b dx dy fs gs, x = .ref a ∧ y = .ref b ∧ H a = some (.ins C dx fs) ∧ H b = some (.ins C dy gs) ∧ sp [.ref a, .ref b] H (fun v H' => ∃ r, v = .bl r ∧ Q (.bl (!r)) H') E
def neB (K : PySem.W.Frag) (C : Addr) : Bool := decide (PySem.W.findIn K (.ref C) "__ne__" = some (some (.builtin "object.__ne__"))) && decide (PySem.W.subIn K (.ref C) (.type "object") = some true)
theorem ne_O (M : CalM X.prog X.w X.K X.mg X.base CX k C "__eq__" ps sp) (hn : neB X.K C = true) (hr : Room (k + 1) X.A) (hx : Passes CX X E) : OpR X (compareOp .NotEq) (rNeO C sp E) := by
  intro pins s σ H x y v u Q I rx ry hq
  obtain ⟨f, fd, m, b, F⟩ := M.ex
  obtain ⟨a, c, dx, dy, fs, gs, rfl, rfl, ha, hb, hsp⟩ := hq
  cases rx
  cases ry
  obtain ⟨h1, h2⟩ := He.ba hn
  obtain ⟨ox, od, J⟩ := inst_at I ha
  obtain ⟨oy, od', J'⟩ := inst_at I hb
  obtain ⟨mm, hF⟩ := I.fr
  show wpAny (model X.prog X.w) X.A (richCompare .NotEq (.ref a) (.ref c)) (EP X pins σ Q) X.xe s
  refine PySem.W.fx_ne_K (tb := .ref C) (by have := hr.un; omega) hF I.ok.mod.kin J J'.type (by simp [PySem.W.notFirst]) (of_decide_eq_true h1) m.at_ m.fn (of_decide_eq_true h2) ?_
  refine wpAny_mono (run_fnA (A := X.A.in1) (vs := [.ref a, .ref c]) (us := [.ref a, .ref c]) rfl F hr.in1 b hx I (.cons rfl (.cons rfl .nil)) hsp) (fun v s' hv => ?_) fun _ _ z => z
  obtain ⟨z, H', I', rz, r, rfl, q⟩ := hv
  cases rz
  exact ⟨r, rfl, .bl (!r), H', I', rfl, q⟩
/-- o[i] -/
def rIxO (C : Addr) (sp : Sp) (E : XK) : R2 := fun x y H Q => ∃ a dx fs, x = .ref a ∧ H a = some (.ins C dx fs) ∧ sp [.ref a, y] H Q E
def ixB (K : PySem.W.Frag) (C : Addr) : Bool := match PySem.W.findIn K (.ref C) "__getitem__" with
  | some (some (.ref f)) => PySem.W.fnIn K f
  | _ => false
theorem pe_ixO {ae be : Expr} {ta tb : TE} {pos : Pos} (M : CalM X.prog X.w X.K X.mg X.base CX k C "__getitem__" ps sp) (hr : Room (k + 1) X.A) (hx : Passes CX X E) (ha : PE X ae ta) (hb : PE X be tb)
    (hs : ∀ v u, subscripted be true v u = runValue (.builtin "lifetime.subscript" ⟨[v, u], []⟩)) (hfn : ixB X.K C = true) : PE X (.Subscript ae be pos) (tOp (rIxO C sp E) ta tb) := by
  obtain ⟨f, fd, m, b, F⟩ := M.ex
  refine ⟨fun pins s σ H Q I h => ?_⟩
  refine Subscript_ (binT ha hb I h fun v u s2 x y H2 I2 rx ry q => ?_)
  obtain ⟨a, dx, fs, rfl, hA, hsp⟩ := q
  cases rx
  obtain ⟨ox, od, J⟩ := inst_at I2 hA
  obtain ⟨mm, hF⟩ := I2.fr
  refine PySem.W.sub_K hF I2.ok.mod.kin J m.at_ (by unfold ixB at hfn; rw [m.at_] at hfn; exact hfn) m.fn ?_ (hs _ _)
  exact run_fnA (A := X.A.in1) (vs := [.ref a, y]) (us := [.ref a, u]) rfl F hr.in1 b hx I2 (.cons rfl (.cons ry .nil)) hsp
end
end Fx
namespace Fx
open PySem PySem.Spec PyProof.Rows L2
/-! ### a tuple whose object is known (its methods may be called) -/
def FT (H : Hp) (p : Addr) (xs : List V) : Prop := ∃ ob : Obj, H p = some (.frz ob (.tup xs)) ∧ ob.dict = none
theorem FT.same {H H' : Hp} {p : Addr} {xs : List V} (h : FT H p xs) (s : Same H H') : FT H' p xs := by
  obtain ⟨ob, h, d⟩ := h
  exact ⟨ob, s _ _ h, d⟩
theorem FT.kp {b : Addr} {H H' : Hp} {p : Addr} {xs : List V} (h : FT H p xs) (B : Bag H b) (k : Kp b H H') : FT H' p xs := by
  obtain ⟨ob, h, d⟩ := h
  refine ⟨ob, k.keep _ _ ?_ h, d⟩
  obtain ⟨kvs, hb⟩ := B.some
  exact ne_of h hb (by intro z; cases z)
theorem FT.sq {K : PySem.W.Frag} {H : Hp} {p : Addr} {xs : List V} (h : FT H p xs) : SqT K H p xs := by
  obtain ⟨ob, h, _⟩ := h
  exact .inl (.inr ⟨ob, h⟩)
section
variable {X : Cx}
/-- tuple(xs) -/
def rTupF : List V → Hp → VK → Prop := fun vs H Q => ∃ p, vs = [.ref p] ∧ ∃ ys, H p = some (.lst ys) ∧ ∀ l H', H l = none → Same H H' → FT H' l ys → Q (.ref l) H'
theorem tup_F : CallR X (.type "tuple") rTupF := by
  intro pins s σ H xs us Q I r h
  obtain ⟨p, rfl, ys, hp, q⟩ := h
  obtain ⟨u, rfl, rx⟩ := r.one
  cases rx
  obtain ⟨its, r', pl, hz⟩ := I.list (xs := ys) (.inl (.inl hp))
  have hlen := r'.length
  refine call_tuple_list pl.isList (fun h' kp => ?_) (by simp only [List.size_toArray] <;> omega)
  have I1 : Inv X pins σ H { s with heap := h' } := I.kept (t' := s.toks) kp
  have I2 : Inv X pins σ (upd H h'.objs.size (.frz { cls := .type "tuple", data := .seq its.toArray } (.tup ys))) { s with heap := h'.push { cls := .type "tuple", data := .seq its.toArray } } :=
    I1.laid (t' := s.toks) (fun b o e => Heap.get?_push_of_some _ e) (Nat.le_refl _) (show ObjOk X.prog X.w _ _ _ (.frz _ (.tup ys)) from ⟨Heap.get?_push_size _ rfl, hz, its, r', IsTup.new _ _⟩)
  have nl : H h'.objs.size = none := I1.hok.fresh (Nat.le_refl _)
  exact ⟨.ref h'.objs.size, _, I2, rfl, q _ _ nl (same_new nl) ⟨_, upd_same, rfl⟩⟩
end
end Fx
namespace Fx
open PySem PySem.Spec PyProof.Rows L2
/-! ### iter(t), t a tuple; list(o) of an instance whose __iter__ says iter(self.f) -/
def TItO (p it : Addr) (i : Nat) : HO := .ext fun h => h.IsTupleIter it p i
def EndO (it : Addr) : HO := .ext fun h => ∃ o, h.get? it = some o
theorem titO_ok {P : Program} {w : World} {H : Hp} {h : Heap} {p it : Addr} {i : Nat} (e : h.IsTupleIter it p i) : ObjOk P w H h it (TItO p it i) := ⟨e, let ⟨o, ho, _⟩ := e; ⟨o, ho⟩, fun h1 h2 q k => let ⟨o, ho, r⟩ := q; ⟨o, k _ ho, r⟩⟩
theorem endO_ok {P : Program} {w : World} {H : Hp} {h : Heap} {it : Addr} (e : ∃ o, h.get? it = some o) : ObjOk P w H h it (EndO it) := ⟨e, e, fun h1 h2 q k => let ⟨o, ho⟩ := q; ⟨o, k _ ho⟩⟩
section
variable {prog : Program} {w : World} {A : Around} {E : Value → Shared → Prop} {s : Shared}
theorem call_iterT0 {t : Addr} {items : Array Value} {Q : Value → Shared → Prop} (hl : s.heap.IsTuple t items) (h : Q (.ref s.heap.objs.size) { s with heap := s.heap.push { cls := .type "tuple_iterator", data := .fields #[.ref t, .int 0 0] } }) : wpAny (model prog w) A (call (.builtin "iter") [.ref t]) Q E s := by
  refine Calls.call_function_entry (by decide +kernel) (by decide +kernel) PySem.W.kdk_entry_iter (PySem.W.kdk_args_iter _) ?_
  unfold Builtin.«iter»
  refine wpAny_bind (m := someArgs "iter" 1 2 _) (wpAny_of_eq (a := [Value.ref t]) (by first | rfl | kernel_rfl!) ?_)
  show wpAny _ _ (pyIter (.ref t) >>= _) _ _ _
  refine wpAny_bind (wpAny_pyIter_tuple hl ?_)
  exact wpAny_pure ⟨_, rfl, h⟩
/-- the end, with the iterator still there -/
theorem next_tuple_end {it t : Addr} {i : Nat} {items : Array Value} {Q : Option Value → Shared → Prop} (hh : A.handled = none)
    (hit : s.heap.IsTupleIter it t i) (ht : s.heap.IsTuple t items) (hx : items[i]? = none)
    (hQ : ∀ h', Heap.ExtBut it s.heap h' → (∃ o, h'.get? it = some o) → Q none { s with heap := h' }) : wpAny (model prog w) A (pyNext (.ref it)) Q E s := by
  obtain ⟨o, ho, hc, hd⟩ := id hit
  obtain ⟨ol, hol, _, nl, hdl⟩ := ht
  unfold pyNext
  refine wpAny_bind (wpAny_attempt (wpAny_callSpecial?_slot (name := Str.ofString "__next__") hit.typeIs PySem.F.slot_tuple_iterator_next
    (wpAny_call_entry PySem.F.slot_tuple_iterator_next hit.typeIs PySem.F.entry_tuple_iterator_next ?_ (PySem.F.args_tuple_iterator_next_1 _))))
  show wpAny _ _ (field (.ref it) 0 >>= _) _ _ s
  refine wpAny_bind (wpAny_field ho hd (x := .ref t) rfl ?_)
  show wpAny _ _ (if (Value.ref t == Value.none) = true then _ else _) _ _ s
  rw [if_neg (show ¬ ((Value.ref t == Value.none) = true) from Bool.false_ne_true)]
  show wpAny _ _ (field (.ref it) 1 >>= _) _ _ s
  refine wpAny_bind (wpAny_field ho hd (x := .int i 0) rfl ?_)
  show wpAny _ _ (seqItems? (.ref t) >>= _) _ _ s
  refine wpAny_bind (wpAny_seqItems hol hdl ?_)
  simp only [Int.toNat_natCast, hx]
  refine wpAny_bind (wpAny_rule (wpAny_bind (wpAny_setField ho hd (by simp) ?_)))
  show wpAny _ _ (newExc (.type "StopIteration") [] >>= _) _ _ _
  refine wpAny_bind ?_
  simp only [newExc, newTuple]
  refine wpAny_bind (wpAny_newObj_type ?_ (by size_fits))
  refine wpAny_bind (m := firstArgMember _ _) (wpAny_of_eq (a := Value.none) (by first | rfl | (simp only [firstArgMember]; rfl)) ?_)
  refine wpAny_newObj_type ?_ (by size_fits)
  simp only [raiseNew]
  refine wpAny_bind (wpAny_handled ?_)
  first | rw [show A.in1.handled = none from hh] | rw [hh]
  refine wpAny_bind (wpAny_pure (wpAny_throw ?_))
  refine wpAny_bind (wpAny_isInstance (T := "StopIteration") (b := true) ⟨_, Heap.get?_push_size _ rfl, rfl⟩ isSubtype_stop ?_)
  refine wpAny_pure (hQ _ (((Heap.SameBut.update ..).extBut.push _).push _) ⟨_, Heap.get?_push_of_some _ (Heap.get?_push_of_some _ (Heap.get?_update_self _ ho (Obj.isFreed_of_fields (Obj.data_mapFields hd _))))⟩)
end
section
variable {X : Cx}
/-- iter(t) -/
def rIterT : List V → Hp → VK → Prop := fun xs H Q => ∃ t, xs = [.ref t] ∧ ∃ zs, FT H t zs ∧ ∀ it, H it = none → Q (.ref it) (upd H it (TItO t it 0))
theorem iter_T : CallR X (.builtin "iter") rIterT := by
  intro pins s σ H xs us Q I r h
  obtain ⟨t, rfl, zs, hq, q⟩ := h
  obtain ⟨u, rfl, ru⟩ := r.one
  cases ru
  obtain ⟨its, rv, pl, hz⟩ := I.tuple (xs := zs) hq.sq
  refine call_iterT0 pl ?_
  exact ⟨.ref s.heap.objs.size, _, I.laid (t' := s.toks) (fun b u e => Heap.get?_push_of_some _ e) (Nat.le_refl _) (titO_ok ⟨_, Heap.get?_push_size _ rfl, rfl, rfl⟩), rfl, q _ (I.hok.fresh (Nat.le_refl _))⟩
theorem upd_in {H : Hp} {a b : Addr} {o u v : HO} (h : a ≠ b) : upd (upd (upd H a o) b u) a v = upd (upd H a v) b u := by
  funext c
  unfold upd
  by_cases h1 : c = a
  · have h2 : c ≠ b := fun e => h (h1.symm.trans e)
    rw [if_pos h1, if_neg h2, if_pos h1]
  · rw [if_neg h1]
    by_cases h2 : c = b
    · rw [if_pos h2, if_pos h2]
    · rw [if_neg h2, if_neg h2, if_neg h1, if_neg h1]
variable {pins : List (Addr × Obj)} {σ : L2.St} {A1 : Around}
theorem tup_loop {H0 : Hp} {p it q : Addr} {ys : List V} {Rs : Result → Shared → Prop} (hh : A1.handled = none) (hiq : it ≠ q) (hpi : p ≠ it) (hpq : p ≠ q) (hp : FT H0 p ys) (hl : ys.length ≤ sizeLine)
    (hdone : ∀ s, Inv X pins σ (upd (upd H0 it (EndO it)) q (.lst ys)) s → Rs (.ok (.ret .none)) s) :
    ∀ (m i : Nat) (s : Shared), ys.length - i = m → i ≤ ys.length → Inv X pins σ (upd (upd H0 it (TItO p it i)) q (.lst (ys.take i))) s → codeAny (model X.prog X.w) A1 (.builtin "list.extend.loop" ⟨[.ref q, .ref it, .none], []⟩) Rs s := by
  intro m
  induction m with
  | zero =>
    intro i s hm hi I
    have ei : i = ys.length := by omega
    refine codeAny_builtin PySem.F.entry_extend_loop ?_
    rw [Around.under_plainId PySem.F.plain_extend_loop _]
    show wpAny _ A1.in1 (pyNext (.ref it) >>= _) _ _ s
    have hH : upd (upd H0 it (TItO p it i)) q (.lst (ys.take i)) it = some (TItO p it i) := by rw [upd_ne hiq, upd_same]
    have hP : FT (upd (upd H0 it (TItO p it i)) q (.lst (ys.take i))) p ys := by
      obtain ⟨ob, hp, hd⟩ := hp
      exact ⟨ob, by rw [upd_ne hpq, upd_ne hpi]; exact hp, hd⟩
    have hit : s.heap.IsTupleIter it p i := (I.hok it _ hH).1
    obtain ⟨its, rv, pl, hz⟩ := I.tuple (xs := ys) hP.sq
    refine wpAny_bind (next_tuple_end (A := A1.in1) hh hit pl (by rw [List.getElem?_toArray]; exact rv.none_of (by rw [ei]; exact List.getElem?_eq_none (Nat.le_refl _))) fun h' eb ex => ?_)
    refine wpAny_pure (hdone _ ?_)
    have mu : Mut (upd (upd H0 it (TItO p it i)) q (.lst (ys.take i)) it) := by rw [hH]; exact True.intro
    have I2 := I.write (x := it) (e := it) (t' := s.toks) mu (.inl rfl) (fun b o nb z => eb b o nb z) ex (endO_ok (H := upd (upd (upd H0 it (TItO p it i)) q (.lst (ys.take i))) it (EndO it)) ex)
    rw [upd_in hiq, ei, List.take_length] at I2
    exact I2
  | succ m ih =>
    intro i s hm hi I
    have hlt : i < ys.length := by omega
    refine codeAny_builtin PySem.F.entry_extend_loop ?_
    rw [Around.under_plainId PySem.F.plain_extend_loop _]
    show wpAny _ A1.in1 (pyNext (.ref it) >>= _) _ _ s
    have hH : upd (upd H0 it (TItO p it i)) q (.lst (ys.take i)) it = some (TItO p it i) := by rw [upd_ne hiq, upd_same]
    have hP : FT (upd (upd H0 it (TItO p it i)) q (.lst (ys.take i))) p ys := by
      obtain ⟨ob, hp, hd⟩ := hp
      exact ⟨ob, by rw [upd_ne hpq, upd_ne hpi]; exact hp, hd⟩
    have hit : s.heap.IsTupleIter it p i := (I.hok it _ hH).1
    obtain ⟨its, rv, pl, hz⟩ := I.tuple (xs := ys) hP.sq
    obtain ⟨u, hu, ru⟩ := rv.get (List.getElem?_eq_getElem hlt)
    refine wpAny_bind (wpAny_pyNext_tuple_item hit pl (x := u) (by rw [List.getElem?_toArray]; exact hu) fun h' e' sb => ?_)
    have mu : Mut (upd (upd H0 it (TItO p it i)) q (.lst (ys.take i)) it) := by rw [hH]; exact True.intro
    have ex : ∃ o, h'.get? it = some o := let ⟨o, ho, _⟩ := e'; ⟨o, ho⟩
    have I2 := I.write (x := it) (e := it) (t' := s.toks) mu (.inl rfl) (fun b o nb z => (sb.2 b nb).trans z) ex (titO_ok (H := upd (upd (upd H0 it (TItO p it i)) q (.lst (ys.take i))) it (TItO p it (i + 1))) e')
    rw [upd_in hiq] at I2
    have hq2 : upd (upd H0 it (TItO p it (i + 1))) q (.lst (ys.take i)) q = some (.lst (ys.take i)) := upd_same
    obtain ⟨z, its2, k, r2, hl2, e2⟩ := I2.lstM hq2
    show wpAny _ A1.in1 (updateSeq q (·.push u) >>= _) _ _ _
    have lt : (ys.take i).length = i := by rw [List.length_take]; omega
    refine wpAny_bind (wpAny_updateSeq e2 rfl (wpAny_pure ⟨plainId_quiet PySem.F.plain_extend_loop _, ?_⟩) (by rw [List.size_toArray]; omega) (by show (its2.toArray.push u).size ≤ sizeLine + 1; rw [Array.size_push, List.size_toArray]; omega))
    have I3 := I2.lset (f := (·.push u)) (its' := its2 ++ [u]) (ys := ys.take i ++ [ys[i]]) (t' := s.toks) hq2 e2 (by simp) (r2.append (.cons ru .nil)) (by rw [List.length_append, List.length_singleton]; omega)
    rw [upd_upd, List.take_append_getElem hlt] at I3
    exact ih (i + 1) _ (by omega) hlt I3
end
end Fx
namespace Fx
open PySem PySem.Spec PyProof.Rows L2
section
variable {X : Cx} {k : Nat} {C : Addr} {psI psL : List Str} {spI spL : Sp}
theorem run_fn0 {A : Around} {f : Addr} {fd : FuncData} {ps : List Str} {sp : Sp} {E' : Value → Shared → Prop} {pins : List (Addr × Obj)} {σ : L2.St} {H : Hp} {s : Shared} {Q : VK} {us : List Value} {vs : List V} (hA : A.frames = X.A.frames) (F : FnOk X.prog X.w X.K X.mg X.base CX0 k f fd ps sp) (hr : Room k A) (hb : Binds X.K fd ps [])
    (I : Inv X pins σ H s) (r : Vals vs us) (h : sp vs H Q E0) : wpAny (model X.prog X.w) A (call (.ref f) us) (EP X pins σ Q) E' s := by
  have e0 : Env0 X.prog X.w X.K X.mg X.base A X.stack s H := by
    have e := I.env0
    exact ⟨by rw [hA]; exact e.frames, e.mod, e.bs, e.bsz, e.funs, e.frf, e.hok, e.bare⟩
  have hl : us.length = ps.length := by rw [← r.length]; exact F.len _ _ _ _ h
  have b := hb s us I.kIn (by rw [List.append_nil]; exact hl)
  rw [List.append_nil] at b
  refine wpAny_call (codeAny_mono (F.run A X.stack s H ⟨us, []⟩ us vs Q E0 hr e0 b r h) fun r s' hq => ?_)
  cases r with
  | error e => exact False.elim hq
  | ok fl =>
    cases fl with
    | ret u => exact I.after hq
    | next => exact False.elim hq
    | brk => exact False.elim hq
    | cont => exact False.elim hq
/-- the own __len__ tells the length ahead of the filling -/
theorem own_hintL {A : Around} {pins : List (Addr × Obj)} {σ : L2.St} {H : Hp} {s : Shared} {a dx : Addr} {fs : List (Str × V)} {Q : Bool → Shared → Prop} (hA : A.frames = X.A.frames) (M : CalM X.prog X.w X.K X.mg X.base CX0 k C "__len__" psL spL) (hr : Room (k + 1) A) (I : Inv X pins σ H s) (ha : H a = some (.ins C dx fs))
    {R : Hp → Prop} (hsp : spL [.ref a] H (fun v H' => ∃ n, v = .int n ∧ 0 ≤ n ∧ n ≤ 1000000 ∧ R H') E0) (hq : ∀ b H' s', Inv X pins σ H' s' → R H' → Q b s') : wpAny (model X.prog X.w) A (Builtin.List.listLengthHint (.ref a)) Q X.xe s := by
  obtain ⟨f, fd, m, b, F⟩ := M.ex
  obtain ⟨ox, od, J⟩ := inst_at I ha
  obtain ⟨mm, hF⟩ := I.fr
  unfold Builtin.List.listLengthHint
  refine wpAny_bind (wpAny_bind (J.type.here ((PySem.W.looks_findIn I.kIn m.at_).here ?_)))
  refine PySem.W.KFB.if_not rfl ?_
  refine PySem.W.KFB.if_so rfl ?_
  refine wpAny_bind (wpAny_rule ?_)
  refine wpAny_bind (wpAny_attempt (PySem.W.len_K hF I.ok.mod.kin J m.at_ m.fn ?_))
  refine wpAny_mono (run_fn0 (E' := fun _ _ => False) (A := A.in1) (vs := [.ref a]) (us := [.ref a]) hA F hr.in1 b I (.cons rfl .nil) hsp) (fun v s' hv => ?_) fun _ _ z => z.elim
  obtain ⟨z, H', I', rz, n, rfl, h0, h1, r⟩ := hv
  obtain ⟨t, rfl⟩ := rz
  refine ⟨⟨h0, by omega⟩, ?_⟩
  have tl : Builtin.List.listTooLong n.toNat = false := by
    unfold Builtin.List.listTooLong
    rw [decide_eq_false_iff_not, sizeLine_eq]
    omega
  show wpAny _ _ (asInt? (.int n _) >>= _) _ _ _
  refine wpAny_bind (wpAny_of_eq (a := some n) (by first | rfl | (simp only [asInt?]; rfl)) ?_)
  refine PySem.W.KFB.if_not tl ?_
  exact wpAny_pure (hq _ H' _ (I'.tok _) r)
/-- list(o) -/
def rListO (C : Addr) (spI spL : Sp) : List V → Hp → VK → Prop := fun xs H Q => ∃ a, xs = [.ref a] ∧ ∃ dx fs, H a = some (.ins C dx fs) ∧ ∀ q, H q = none → spI [.ref a] (upd H q (.lst [])) (fun v H1 => ∃ it, v = .ref it ∧ ∃ p, H1 it = some (TItO p it 0) ∧ ∃ dx fs, H1 a = some (.ins C dx fs) ∧
  spL [.ref a] H1 (fun v2 H2 => ∃ n, v2 = .int n ∧ 0 ≤ n ∧ n ≤ 1000000 ∧ H2 it = some (TItO p it 0) ∧ H2 q = some (.lst []) ∧ ∃ ys, FT H2 p ys ∧ Q (.ref q) (upd (upd H2 it (EndO it)) q (.lst ys))) E0) E0
theorem list_O (MI : CalM X.prog X.w X.K X.mg X.base CX0 k C "__iter__" psI spI) (ML : CalM X.prog X.w X.K X.mg X.base CX0 k C "__len__" psL spL) (hc : X.calm = true) (hr : Room (k + 3) X.A) : CallR X (.type "list") (rListO C spI spL) := by
  intro pins s σ H xs us Q I rv h
  obtain ⟨a, rfl, dx, fs, ha, hq⟩ := h
  obtain ⟨u, rfl, ru⟩ := rv.one
  cases ru
  refine callType_codes (Q₁ := fun obj s₁ => obj = .ref s.heap.objs.size ∧ s₁ = { s with heap := s.heap.push { cls := .type "list", data := .seq #[] } }) PySem.F.called_list (PySem.F.typeCall_list_1 _) PySem.F.entry_list_init
    (code_list_new _ ⟨rfl, rfl⟩) fun obj s₁ h₁ => ?_
  obtain ⟨rfl, rfl⟩ := h₁
  have hS : (s.heap.push { cls := .type "list", data := .seq #[] }).get? s.heap.objs.size = some { cls := .type "list", data := .seq #[] } := Heap.get?_push_size _ rfl
  refine ⟨⟨_, hS, rfl⟩, PySem.F.args_list_init_2 _ _, ?_⟩
  have fr : H s.heap.objs.size = none := I.hok.fresh (Nat.le_refl _)
  have hq := hq _ fr
  have I1 : Inv X pins σ (upd H s.heap.objs.size (.lst [])) { s with heap := s.heap.push { cls := .type "list", data := .seq #[] } } := I.lnew (its := []) (t' := s.toks) .nil (Nat.zero_le _)
  show wpAny _ _ (do let old ← Builtin.List.listItems (.ref s.heap.objs.size); Builtin.List.listUpdate (.ref s.heap.objs.size) (fun _ => #[]); letGo old.toList.reverse; Builtin.List.listExtendWith (.ref s.heap.objs.size) (.ref a) .none) _ _ _
  refine wpAny_bind ?_
  unfold Builtin.List.listItems
  refine wpAny_bind (wpAny_seqItems hS rfl (wpAny_pure ?_))
  show wpAny _ _ (updateSeq s.heap.objs.size (fun _ => #[]) >>= fun _ => letGo (#[] : Array Value).toList.reverse >>= fun _ => Builtin.List.listExtendWith (.ref s.heap.objs.size) (.ref a) .none) _ _ _
  refine wpAny_bind (wpAny_updateSeq hS rfl ?_)
  have I2 := I1.lset (f := fun _ => #[]) (its := []) (its' := []) (ys := []) (t' := s.toks) upd_same hS rfl .nil (Nat.zero_le _)
  rw [upd_upd] at I2
  refine wpAny_bind (wpAny_letGo ?_)
  have ha2 : upd H s.heap.objs.size (.lst []) a = some (.ins C dx fs) := by rw [upd_ne (ne_of_none ha fr)]; exact ha
  generalize s.heap.objs.size = q at *
  have hne : q ≠ a := fun e => by
    rw [e, ha] at fr
    cases fr
  obtain ⟨fi, fdi, mi, bi, Fi⟩ := MI.ex
  obtain ⟨ox, od, J⟩ := inst_at I2 ha2
  obtain ⟨mm, hF⟩ := I2.fr
  have hr1 : Room k X.A.in1.in1 := (Room.in1 (Room.in1 hr)).mono (Nat.le_succ _)
  unfold Builtin.List.listExtendWith
  refine wpAny_bind (J.type.here ?_)
  have h1 : Builtin.List.listSameRef (.ref q) (.ref a) = false := by simp [Builtin.List.listSameRef, hne]
  have h2 : (Value.ref C == Value.type "list") = false := rfl
  have h3 : (Value.ref C == Value.type "tuple") = false := rfl
  simp only [h1, h2, h3, Bool.or_false, Bool.false_eq_true, if_false]
  refine wpAny_bind (PySem.W.owit_iter hF I2.ok.mod.kin J mi.at_ mi.fn ?_)
  refine wpAny_mono (run_fn0 (E' := fun _ _ => False) (A := X.A.in1.in1) (vs := [.ref a]) (us := [.ref a]) rfl Fi hr1 bi I2 (.cons rfl .nil) hq) (fun v s' hv => ?_) fun _ _ z => z.elim
  obtain ⟨z, H1, I3, rz, it, rfl, p, hit, dx1, fs1, ha3, hsp⟩ := hv
  cases rz
  have hit0 : s'.heap.IsTupleIter it p 0 := (I3.hok it _ hit).1
  unfold PySem.W.OwitIt
  refine wpAny_specialOf (name := Str.ofString "__next__") hit0.typeIs PySem.F.slot_tuple_iterator_next.lookup ?_
  refine wpAny_bind (wpAny_holding ?_)
  refine own_hintL (A := X.A.in1.in1) rfl ML ((Room.in1 (Room.in1 hr))) I3 ha3 (R := fun H2 => H2 it = some (TItO p it 0) ∧ H2 q = some (.lst []) ∧ ∃ ys, FT H2 p ys ∧ Q (.ref q) (upd (upd H2 it (EndO it)) q (.lst ys))) hsp (fun room H2 s2 I4 hR => ?_)
  obtain ⟨hi2, hq2, ys, hp2, hQ⟩ := hR
  have hiq : it ≠ q := ne_of hi2 hq2 (by unfold TItO; intro z; cases z)
  obtain ⟨obp, hpp, hpd⟩ := id hp2
  have hpi : p ≠ it := ne_of hpp hi2 (by unfold TItO; intro z; cases z)
  have hpq : p ≠ q := ne_of hpp hq2 (by intro z; cases z)
  have hl : ys.length ≤ sizeLine := (I4.hok p _ hpp).2.1
  have e0 : upd (upd H2 it (TItO p it 0)) q (.lst (ys.take 0)) = H2 := by
    funext c
    unfold upd
    by_cases h1 : c = q
    · rw [if_pos h1, h1]
      exact hq2.symm
    · rw [if_neg h1]
      by_cases h2 : c = it
      · rw [if_pos h2, h2]
        exact hi2.symm
      · rw [if_neg h2]
  have go : ∀ s3, Inv X pins σ H2 s3 → codeAny (model X.prog X.w) X.A.in1 (.builtin "list.extend.loop" ⟨[.ref q, .ref it, .none], []⟩) (wants (fun r s₂ => r = .none ∧ EP X pins σ Q (.ref q) s₂) X.xe) s3 := fun s3 I5 =>
    tup_loop (A1 := X.A.in1) (H0 := H2) (show X.A.in1.handled = none from I5.ok.hd hc) hiq hpi hpq hp2 hl (fun s4 I6 => ⟨rfl, .ref q, _, I6, rfl, hQ⟩) ys.length 0 s3 (by omega) (Nat.zero_le _) (by rw [e0]; exact I5)
  obtain ⟨z, its, kk, r3, hl3, e3⟩ := I4.lstM hq2
  cases r3
  refine wpAny_ite_split (fun _ => ?_) (fun _ => wpAny_pure ⟨plainId_quiet PySem.F.plain_extend_loop _, go _ I4⟩)
  refine wpAny_bind (wpAny_rule ?_)
  refine wpAny_bind ?_
  show wpAny _ _ (updateSeq q (·.push .none) >>= fun _ => updateSeq q (·.pop)) _ _ _
  refine wpAny_bind (wpAny_updateSeq e3 rfl ?_)
  have J2 := I4.lset (f := (·.push Value.none)) (its' := [Value.none]) (ys := [.non]) (t' := s2.toks) hq2 e3 (by simp) (.cons rfl .nil) (by rw [List.length_singleton, sizeLine_eq]; decide)
  obtain ⟨z4, its4, k4, r4, hl4, e4⟩ := J2.lstM upd_same
  obtain ⟨u4, rfl, ru4⟩ := r4.one
  refine wpAny_updateSeq e4 rfl ?_ (by show 1 ≤ sizeLine; rw [sizeLine_eq]; decide) (by show 0 ≤ sizeLine + 1; exact Nat.zero_le _)
  refine wpAny_pure ⟨plainId_quiet PySem.F.plain_extend_loop _, go _ ?_⟩
  have J3 := J2.lset (f := (·.pop)) (its := [u4]) (its' := []) (ys := []) (t' := s2.toks) upd_same e4 (by rfl) .nil (Nat.zero_le _)
  rw [upd_upd] at J3
  have hH : upd H2 q (.lst []) = H2 := by
    funext b
    by_cases hb : b = q
    · rw [hb, upd_same, hq2]
    · rw [upd_ne hb]
  rw [hH] at J3
  exact J3
end
end Fx
namespace Fx
open PySem PySem.Spec PyProof.Rows L2
/-! ### __init__ with one default -/
structure CalID (P : Program) (w : World) (K : PySem.W.Frag) (mg : Str → Option Value) (base : Heap) (CX : CXT) (k : Nat) (C : Addr) (ps : List Str) (dv : V) (sp : Sp) : Prop where
  ex : ∃ f fd ds, Mk K C f ∧ Binds K fd ps [] ∧ Vals [dv] ds ∧ Binds K fd ps ds ∧ FnOk P w K mg base CX k f fd ps sp
section
variable {P : Program} {w : World} {K : PySem.W.Frag} {mg : Str → Option Value} {base : Heap} {CX : CXT} {k : Nat} {C : Addr} {ps : List Str} {dv : V} {sp : Sp}
theorem CalID.full (M : CalID P w K mg base CX k C ps dv sp) : CalI P w K mg base CX k C ps sp := by
  obtain ⟨f, fd, ds, m, b, _, _, F⟩ := M.ex
  exact ⟨f, fd, m, b, F⟩
/-- how its parameters are bound: all are given; the last one lacks -/
abbrev BindD (x q : Str) (st : Stmt) (ps : List Str) (n j : Nat) : Prop := ∀ (T : Addr) (kV doc pm : Value) (an : Option Addr) (cdv ct : Value) (us its : List Value), us.length = n → its.length = 1 →
  ∃ k, bindArgs (PySem.W.fnOf x q (defArgs st) (defBody st) (defScope st) (.ref T) kV doc pm an cdv ct) ⟨us, []⟩ = seqItems? (.ref T) >>= k ∧ k (some its.toArray) = pure (ps.zip (us ++ its.drop j))
theorem calID_of {x q : Str} {st : Stmt} {f : Addr} {fd : FuncData} (F : FunD K x q (defArgs st) (defBody st) (defScope st) [dv] [] f fd) (M : Mk K C f) (n : Nat) (hn : n + 1 = ps.length) (b1 : BindD x q st ps (n + 1) 1) (b0 : BindD x q st ps n 0) (ok : FnOk P w K mg base CX k f fd ps sp) : CalID P w K mg base CX k C ps dv sp := by
  obtain ⟨ds1, v1, B1⟩ := F.binds1 (ps := ps) (n + 1) 1 (by simp) (by simpa using hn) b1
  obtain ⟨ds0, v0, B0⟩ := F.binds1 (ps := ps) n 0 (by simp) (by simpa using hn) b0
  have e : ds1 = [] := by
    cases v1
    rfl
  subst e
  exact ⟨f, fd, ds0, M, B1, v0, B0, ok⟩
theorem ok0D {x qual : Str} {st : Stmt} {N : List Str} {dvs : List V} {f : Addr} {fd : FuncData} (F : FunD K x qual (defArgs st) (defBody st) (defScope st) dvs [] f fd) (sc : FnScope N ps (defScope st)) (len : ∀ vs H Q E, sp vs H Q E → vs.length = ps.length)
    (hbody : ∀ (f : Addr) (cdv : Value) (A : Around) (outer : List Env) (s : Shared) (H : Hp) (vs : List V) (Q : VK) (E : XK), Room k (A.deeper (envOfC qual (defScope st) s.heap.objs.size f cdv)) → sp vs H Q E →
      ∃ t, PSs (cxOf CX0 P w K mg base N qual (defScope st) f cdv A outer s H E).nox (defBody st) t ∧ t { nx := fun _ H' => Q .non H', rt := Q } (L2.start N vs) H) : FnOk P w K mg base CX0 (k + 1) f fd ps sp := by
  refine F.ok sc len fun cdv A outer s H vs Q E hr hsp => ?_
  obtain ⟨t, h, q⟩ := hbody f cdv A outer s H vs Q E hr hsp
  exact ⟨t, h.nox, q⟩
theorem okXD {x qual : Str} {st : Stmt} {N : List Str} {dvs : List V} {f : Addr} {fd : FuncData} (F : FunD K x qual (defArgs st) (defBody st) (defScope st) dvs [] f fd) (sc : FnScope N ps (defScope st)) (len : ∀ vs H Q E, sp vs H Q E → vs.length = ps.length)
    (hbody : ∀ (f : Addr) (cdv : Value) (A : Around) (outer : List Env) (s : Shared) (H : Hp) (vs : List V) (Q : VK) (E : XK), Room k (A.deeper (envOfC qual (defScope st) s.heap.objs.size f cdv)) → sp vs H Q E →
      ∃ t, PSs (cxOf (L2.CX P w) P w K mg base N qual (defScope st) f cdv A outer s H E) (defBody st) t ∧ t { nx := fun _ H' => Q .non H', rt := Q } (L2.start N vs) H) : FnOk P w K mg base (L2.CX P w) (k + 1) f fd ps sp :=
  F.ok sc len fun cdv A outer s H vs Q E hr hsp => hbody f cdv A outer s H vs Q E hr hsp
end
section
variable {X : Cx} {x : Str} {C : Addr} {ps : List Str} {dv : V} {sp : Sp} {k : Nat} {CX : CXT} {E : XK} {e : Expr} {es : List Expr} {t : TA} {p pos : Pos}
/-- C(e, ..), the last one by its default -/
theorem pe_mkD (M : CalID X.prog X.w X.K X.mg X.base CX k C ps dv sp) (hr : Room (k + 1) X.A) (hm : X.mg x = some (.ref C)) (hx : Passes CX X E) (ha : PA X (e :: es) t) (hg : Gl X x := by rfl) (hdb : (x == ("__debug__" : Str)) = false := by decide)
    (hs : (e :: es).all nostar = true := by rfl) : PE X (.Call (.Name x p) (e :: es) [] pos) (tMake C sp [dv] E t) := by
  obtain ⟨f, fd, ds, m, _, vd, b, F⟩ := M.ex
  simp only [List.all_cons, Bool.and_eq_true] at hs
  exact pe_make m F hr hg hm b vd hx ha hdb (star_ok hs.1) (back_ok hs.2)
theorem pe_mkD0 (M : CalID X.prog X.w X.K X.mg X.base CX k C ps dv sp) (hr : Room (k + 1) X.A) (hm : X.mg x = some (.ref C)) (hx : Passes CX X E) (hg : Gl X x := by rfl) (hdb : (x == ("__debug__" : Str)) = false := by decide) : PE X (.Call (.Name x p) [] [] pos) (tMake C sp [dv] E tNil) := by
  obtain ⟨f, fd, ds, m, _, vd, b, F⟩ := M.ex
  exact pe_make0 m F hr hg hm b vd hx hdb
end
end Fx
/-! Lists and tuples of texts: sorted, in, index; list(dict) -/
namespace Fx
open PySem PySem.Spec PyProof.Rows L2
abbrev ms (l : List Str) : List V := l.map V.str
section
variable {X : Cx}
/-- sorted(xs), texts, any number of them -/
def rSortS : List V → Hp → VK → Prop := fun vs H Q => ∃ a, vs = [V.ref a] ∧ ∃ xs : List Str, H a = some (.lst (ms xs)) ∧ ∀ (ys : List Str) (p : Addr), ys.Perm xs → sortedS ys = true → H p = none → Q (.ref p) (upd H p (.lst (ms ys)))
theorem sort_S : CallR X (.builtin "sorted") rSortS := by
  intro pins s σ H vs us Q I r h
  obtain ⟨a, rfl, xs, hs, q⟩ := h
  obtain ⟨its, rv, hl, hz⟩ := I.list (xs := ms xs) (.inl (.inl hs))
  obtain ⟨u, rfl, ru⟩ := r.one
  cases ru
  have hlen0 := rv.length
  rw [List.length_map] at hlen0
  have hz2 : xs.length ≤ sizeLine := by
    have := hz
    rw [List.length_map] at this
    exact this
  refine PyProof.Rows.sorted_strsAny hl.isList rv.strs (by rw [← hlen0]; exact hz2) fun out ys h1 h2 h3 => ?_
  obtain ⟨ep, he'⟩ := PyProof.Rows.sortedAll_at s.heap its out
  have hlen : (ms ys).length ≤ sizeLine := by rw [List.length_map, h2.length_eq]; exact hz2
  exact ⟨.ref _, upd H (s.heap.objs.size + 1) (.lst (ms ys)), I.laid (t' := s.toks) (fun _ _ => PyProof.Rows.sortedAll_old) (Nat.le_succ _) ⟨hlen, out.toList, ep, vals_of_strs h1, he'⟩, rfl, q ys _ h2 h3 (I.hok.fresh (Nat.le_succ _))⟩
theorem flat_ms (l : List Str) : (ms l).all flatV = true := by
  rw [List.all_map]
  exact List.all_eq_true.mpr fun _ _ => rfl
theorem in_ms (z : Str) (l : List Str) : inV (.str z) (ms l) = decide (z ∈ l) := by
  unfold inV
  rw [List.any_map]
  induction l with
  | nil => rfl
  | cons x l ih =>
    rw [List.any_cons, ih]
    show ((x == z) || _) = _
    by_cases e : x = z
    · subst e
      simp
    · have e2 : ¬ z = x := fun h => e h.symm
      simp [e, e2]
/-- z in a list or tuple of texts -/
def rInS (neg : Bool) : R2 := fun x y H Q => ∃ z p, x = .str z ∧ y = .ref p ∧ ∃ l : List Str, Sq H p (ms l) ∧ Q (.bl (if neg = true then !decide (z ∈ l) else decide (z ∈ l))) H
theorem in_S : OpR X (compareOp .In) (rInS false) := by
  intro pins s σ H x y v u Q I rx ry h
  obtain ⟨z, p, rfl, rfl, l, hq, q⟩ := h
  refine op_in_seq pins s σ H _ _ v u Q I rx ry ⟨p, ms l, rfl, hq.elim (fun h => .inl (.inl (.inl h))) (fun h => .inr (.inl (.inl h))), rfl, flat_ms l, ?_⟩
  rw [in_ms]
  exact q
theorem notIn_S : OpR X (compareOp .NotIn) (rInS true) := by
  intro pins s σ H x y v u Q I rx ry h
  obtain ⟨z, p, rfl, rfl, l, hq, q⟩ := h
  refine op_notIn_seq pins s σ H _ _ v u Q I rx ry ⟨p, ms l, rfl, hq.elim (fun h => .inl (.inl (.inl h))) (fun h => .inr (.inl (.inl h))), rfl, flat_ms l, ?_⟩
  rw [in_ms]
  exact q
/-- l.index(z): the first place -/
theorem first_at {z : Str} : ∀ {l : List Str}, z ∈ l → ∃ j, l[j]? = some z ∧ (∀ m, m < j → l[m]? ≠ some z) ∧ j = l.idxOf z
  | x :: l, h => by
    by_cases e : x = z
    · subst e
      exact ⟨0, rfl, fun m hm => absurd hm (Nat.not_lt_zero _), by simp⟩
    · have h' : z ∈ l := (List.mem_cons.mp h).resolve_left fun k => e k.symm
      obtain ⟨j, h1, h2, h3⟩ := first_at h'
      refine ⟨j + 1, by simpa using h1, fun m hm => ?_, ?_⟩
      · cases m with
        | zero => simpa using e
        | succ m => simpa using h2 m (by omega)
      · have e2 : (x == z) = false := by simpa using e
        rw [List.idxOf_cons, e2, h3]
        rfl
def rIdxT : V → List V → Hp → VK → Prop := fun x xs H Q => ∃ p z, x = .ref p ∧ xs = [.str z] ∧ ∃ l : List Str, H p = some (.tup (ms l)) ∧ z ∈ l ∧ Q (.int (l.idxOf z : Nat)) H
theorem idx_T : MtR X "tuple.index" rIdxT := by
  intro pins s σ H x xs v us Q I rx rxs h
  obtain ⟨p, z, rfl, rfl, l, hp, hm, q⟩ := h
  obtain ⟨j, h1, h2, rfl⟩ := first_at hm
  exact mt_tup_index pins s σ H _ _ v us Q I rx rxs ⟨p, l, z, _, rfl, rfl, .inl (.inl hp), h1, h2, q⟩
def rIdxL : V → List V → Hp → VK → Prop := fun x xs H Q => ∃ p z, x = .ref p ∧ xs = [.str z] ∧ ∃ l : List Str, H p = some (.lst (ms l)) ∧ z ∈ l ∧ Q (.int (l.idxOf z : Nat)) H
theorem idx_L : MtR X "list.index" rIdxL := by
  intro pins s σ H x xs v us Q I rx rxs h
  obtain ⟨p, z, rfl, rfl, l, hp, hm, q⟩ := h
  obtain ⟨j, h1, h2, rfl⟩ := first_at hm
  refine mt_index pins s σ H _ _ v us Q I rx rxs ⟨p, ms l, .str z, _, .str z, rfl, rfl, .inl (.inl hp), rfl, flat_ms l, by rw [List.getElem?_map, h1]; rfl, by show (z == z) = true; simp, fun m y hm hy => ?_, q⟩
  rw [List.getElem?_map] at hy
  cases e : l[m]? with
  | none => rw [e] at hy; cases hy
  | some w =>
    rw [e] at hy
    have ey : y = .str w := (Option.some.inj hy).symm
    subst ey
    show (w == z) = false
    have : w ≠ z := fun k => h2 m hm (by rw [e, k])
    simpa using this
end
/-! ### sorted lists of texts, in plain words -/
def sle (a b : Str) : Prop := a.cps.toList ≤ b.cps.toList
theorem sle_trans {a b c : Str} (h1 : sle a b) (h2 : sle b c) : sle a c := List.le_trans h1 h2
theorem sle_anti {a b : Str} (h1 : sle a b) (h2 : sle b a) : a = b := by
  have e := List.le_antisymm h1 h2
  cases a with
  | mk x =>
    cases b with
    | mk y =>
      have e2 : x = y := Array.toList_inj.mp e
      rw [e2]
theorem sle_of {a b : Str} (h : (!ltCps b.cps.toList a.cps.toList) = true) : sle a b := by
  rw [ltCps_eq] at h
  have h2 : ¬ (b.cps.toList < a.cps.toList) := by simpa using h
  exact List.not_lt.mp h2
theorem rising_pw : ∀ {l : List Str} {p : Str}, risingS p l = true → (p :: l).Pairwise sle
  | [], p, _ => by simp
  | x :: l, p, h => by
    obtain ⟨h1, h2⟩ := Bool.and_eq_true_iff.mp h
    have ih := rising_pw h2
    have hpx := sle_of h1
    refine List.Pairwise.cons (fun y hy => ?_) ih
    rcases List.mem_cons.mp hy with rfl | hy
    · exact hpx
    · exact sle_trans hpx ((List.pairwise_cons.mp ih).1 y hy)
theorem sorted_pw {l : List Str} (h : sortedS l = true) : l.Pairwise sle := by
  cases l with
  | nil => exact .nil
  | cons x l => exact rising_pw h
theorem pw_uniq : ∀ {l l' : List Str}, l.Pairwise sle → l'.Pairwise sle → l.Perm l' → l = l'
  | [], l', _, _, h => (List.nil_perm.mp h).symm
  | x :: l, [], _, _, h => absurd h (by simp)
  | x :: l, y :: l', h1, h2, h => by
    have e : x = y := by
      have hx : x ∈ y :: l' := h.mem_iff.mp List.mem_cons_self
      have hy : y ∈ x :: l := h.mem_iff.mpr List.mem_cons_self
      rcases List.mem_cons.mp hx with e | hx
      · exact e
      · rcases List.mem_cons.mp hy with e | hy
        · exact e.symm
        · exact sle_anti ((List.pairwise_cons.mp h1).1 y hy) ((List.pairwise_cons.mp h2).1 x hx)
    subst e
    rw [pw_uniq (List.pairwise_cons.mp h1).2 (List.pairwise_cons.mp h2).2 ((List.perm_cons x).mp h)]
/-- sorted, without doubles, with the same members: the same list -/
theorem sorted_uniq {l l' : List Str} (h1 : sortedS l = true) (h2 : sortedS l' = true) (n1 : l.Nodup) (n2 : l'.Nodup) (hm : ∀ z, z ∈ l ↔ z ∈ l') : l = l' :=
  pw_uniq (sorted_pw h1) (sorted_pw h2) ((List.perm_ext_iff_of_nodup n1 n2).mpr hm)
end Fx
namespace Fx
open PySem PySem.Spec PyProof.Rows L2
section
variable {X : Cx}
/-- t[i], len(t), z in t of a tuple whose object is known -/
def rIxF : R2 := fun x y H Q => ∃ p i, x = .ref p ∧ y = .int i ∧ ∃ xs, FT H p xs ∧ ∃ v, atI xs i = some v ∧ Q v H
theorem ix_F : IxR X rIxF := IxR.imp ix_tup fun x y H Q ⟨p, i, e1, e2, xs, h, v, a, q⟩ => ⟨p, xs, i, v, e1, e2, h.sq, a, q⟩
def rLenF : List V → Hp → VK → Prop := fun xs H Q => ∃ p, xs = [.ref p] ∧ ∃ ys, FT H p ys ∧ Q (.int ys.length) H
theorem len_F : CallR X (.builtin "len") rLenF := CallR.imp call_len_seq fun xs H Q ⟨p, e, ys, h, q⟩ => ⟨p, ys, e, .inr h.sq, q⟩
def rInF (neg : Bool) : R2 := fun x y H Q => ∃ z p, x = .str z ∧ y = .ref p ∧ ∃ l : List Str, FT H p (ms l) ∧ Q (.bl (if neg = true then !decide (z ∈ l) else decide (z ∈ l))) H
theorem in_F : OpR X (compareOp .In) (rInF false) := by
  intro pins s σ H x y v u Q I rx ry h
  obtain ⟨z, p, rfl, rfl, l, hq, q⟩ := h
  refine op_in_seq pins s σ H _ _ v u Q I rx ry ⟨p, ms l, rfl, .inr hq.sq, rfl, flat_ms l, ?_⟩
  rw [in_ms]
  exact q
theorem notIn_F : OpR X (compareOp .NotIn) (rInF true) := by
  intro pins s σ H x y v u Q I rx ry h
  obtain ⟨z, p, rfl, rfl, l, hq, q⟩ := h
  refine op_notIn_seq pins s σ H _ _ v u Q I rx ry ⟨p, ms l, rfl, .inr hq.sq, rfl, flat_ms l, ?_⟩
  rw [in_ms]
  exact q
def rIdxF : V → List V → Hp → VK → Prop := fun x xs H Q => ∃ p z, x = .ref p ∧ xs = [.str z] ∧ ∃ l : List Str, FT H p (ms l) ∧ z ∈ l ∧ Q (.int (l.idxOf z : Nat)) H
theorem idx_F : MtR X "tuple.index" rIdxF := by
  intro pins s σ H x xs v us Q I rx rxs h
  obtain ⟨p, z, rfl, rfl, l, hp, hm, q⟩ := h
  obtain ⟨j, h1, h2, rfl⟩ := first_at hm
  exact mt_tup_index pins s σ H _ _ v us Q I rx rxs ⟨p, l, z, _, rfl, rfl, hp.sq, h1, h2, q⟩
/-- t.m(e, ..) -/
def tBMF (r : V → List V → Hp → VK → Prop) (to : TE) (t : TA) : TE := fun σ H Q => to σ H fun x H1 => ∃ p, x = .ref p ∧ (∃ xs, FT H1 p xs) ∧ t σ H1 fun vs H2 => r x vs H2 Q
variable {o e : Expr} {es : List Expr} {to : TE} {t : TA} {name : Str} {apos cpos : Pos} {id : String} {r : V → List V → Hp → VK → Prop}
theorem pe_bmF (slot : Slot "tuple" name id) (hty : typeOf (.builtin id) = pure (.type "method_descriptor")) (hm : MtR X id r) (ho : PE X o to) (ha : PA X (e :: es) t)
    (hbase : attributeBase o name X.env (eval o X.env) = eval o X.env := by rfl)
    (hfew : ((backTo cpos (starEach (e :: es) X.env)).all (fun x => !x.1) && (backToKw cpos (keywordEach [] X.env)).all (fun x => x.1.isSome)
      && decide ((e :: es).length + ([] : List Keyword).length + (if ([] : List Keyword).isEmpty then 0 else 1) < 30)) = true := by rfl)
    (hline : (apos.endLine == cpos.line) = true := by rfl) (hs : starEach (e :: es) X.env = (false, eval e X.env) :: starEach es X.env := by rfl) (hplain : (backTo cpos (starEach es X.env)).any (·.1) = false := by rfl) :
    PE X (.Call (.Attribute o name apos) (e :: es) [] cpos) (tBMF r to t) := by
  refine ⟨fun pins s σ H Q I h => ?_⟩
  refine wpAny_Call_method_late hbase hfew hline rfl (thn (ho.run pins s σ H _ I h) fun v s1 ⟨x, H1, I1, r1, p, ex, ⟨xs, ob, hp, hd⟩, q1⟩ => ?_)
  subst ex
  obtain rfl : v = Value.ref p := r1
  have hob := (I1.hok p _ hp).1
  obtain ⟨_, its, _, o2, ho2, hc2, _⟩ := (I1.hok p _ hp).2
  have eo : o2 = ob := by
    rw [hob] at ho2
    exact (Option.some.inj ho2).symm
  subst eo
  refine ⟨"tuple", id, PySem.F.plainAttrs_tuple, slot, hty, ⟨o2, hob, hc2⟩, fun a e => ?_, ?_⟩
  · cases e
    exact ⟨o2, hob, hd⟩
  have hA := ha.run cpos pins s1 σ H1 _ I1 q1
  rw [hs] at hA ⊢
  refine Calls.callWith_builtin (by show (false || (backTo cpos (starEach es X.env)).any (·.1)) = false; rw [hplain] <;> rfl) (Calls.evalArgs_plain ?_)
  exact thn hA fun us s2 ⟨vs, H2, I2, r2, q2⟩ => hm pins s2 σ H2 (.ref p) vs (.ref p) us Q I2 rfl r2 q2
/-- t == u -/
def rEqF : R2 := fun x y H Q => ∃ p q, x = .ref p ∧ y = .ref q ∧ ∃ xs ys, FT H p xs ∧ FT H q ys ∧ xs.all isF = true ∧ ys.all isF = true ∧ Q (.bl (decide (xs = ys))) H
theorem eq_FF (hu : X.A.units + 64 < cLine) : OpR X (compareOp .Eq) rEqF := by
  intro pins s σ H x y v u Q I rx ry h
  obtain ⟨p, q, rfl, rfl, xs, ys, hp, hq, fx, fy, k⟩ := h
  refine op_eqD hu pins s σ H _ _ v u Q I rx ry ⟨.tuple (xs.map datV), .tuple (ys.map datV), .tup hp.sq (dpAll_dat fx), .tup hq.sq (dpAll_dat fy), shaped_flatT fx, shaped_flatT fy, ?_⟩
  rw [PyData.eqv, eqvAll_dat fx fy]
  exact k
end
theorem ms_inj {a b : List Str} : ms a = ms b ↔ a = b := by
  constructor
  · intro h
    induction a generalizing b with
    | nil => cases b with
      | nil => rfl
      | cons y b => cases h
    | cons x a ih => cases b with
      | nil => cases h
      | cons y b =>
        simp only [ms, List.map_cons, List.cons.injEq, V.str.injEq] at h
        rw [h.1, ih h.2]
  · intro h
    rw [h]
end Fx
namespace Fx
open PySem PySem.Spec PyProof.Rows L2
/-- e.f with the written part named: inside a comprehension the reading must not lean on its context -/
theorem pe_fldK {X : Cx} {K : PySem.W.Frag} {e : Expr} {f : Str} {ta : TE} {pos : Pos} (hK : X.K = K) (he : PE X e ta) (hb : attributeBase e f X.env (eval e X.env) = eval e X.env) : PE X (.Attribute e f pos) (tFld K ta f) := by
  subst hK
  exact pe_fld he hb
end Fx
/-! Data that repr shows: rows of little data -/
namespace Fx
open PySem PySem.Spec PyProof.Rows L2
/-- little data: depth and shown length -/
structure Sm (d : PyData) (m k : Nat) : Prop where
  sh : d.showable = true
  nd : d.hasDict = false
  dep : d.depth ≤ m
  len : d.shown.length ≤ k
  ok : PyData.strOk d.shown = true
theorem Sm.mono {d : PyData} {m k m' k' : Nat} (h : Sm d m k) (hm : m ≤ m') (hk : k ≤ k') : Sm d m' k' := ⟨h.sh, h.nd, Nat.le_trans h.dep hm, Nat.le_trans h.len hk, h.ok⟩
theorem ok_app {a b : Str} (ha : PyData.strOk a = true) (hb : PyData.strOk b = true) : PyData.strOk (a ++ b) = true := by
  unfold PyData.strOk at *
  show (a.cps ++ b.cps).all _ = true
  rw [Array.all_append, ha, hb]
  rfl
theorem textFrom_ok : ∀ (ts : List Str) (n : Nat) (h : Str), (∀ t ∈ ts, PyData.strOk t = true) → PyData.strOk h = true → PyData.strOk (textFrom n h ts) = true
  | [], _, h, _, hh => hh
  | t :: ts, n, h, ht, hh => by
    have h1 := ht t List.mem_cons_self
    have c : PyData.strOk ", " = true := by decide +kernel
    unfold textFrom
    refine textFrom_ok ts _ _ (fun x hx => ht x (List.mem_cons_of_mem _ hx)) ?_
    first
    | (split
       · exact ok_app (ok_app hh c) h1
       · exact ok_app hh h1)
    | exact ok_app (ok_app hh c) h1
theorem listText_ok {ts : List Str} (ht : ∀ t ∈ ts, PyData.strOk t = true) : PyData.strOk (listText ts) = true := ok_app (textFrom_ok ts 0 "[" ht (by decide +kernel)) (by decide +kernel)
theorem sum_le {ts : List Str} {k : Nat} (h : ∀ t ∈ ts, t.length ≤ k) : (ts.map (·.length)).sum ≤ ts.length * k := by
  induction ts with
  | nil => simp
  | cons t ts ih =>
    rw [List.map_cons, List.sum_cons, List.length_cons, Nat.add_mul]
    have := ih fun x hx => h x (List.mem_cons_of_mem _ hx)
    have := h t List.mem_cons_self
    omega
theorem smAll {ds : List PyData} {m k : Nat} (h : ∀ d ∈ ds, Sm d m k) : PyData.showableAll ds = true ∧ PyData.hasDictAll ds = false ∧ PyData.depthAll ds ≤ m := by
  induction ds with
  | nil => exact ⟨by simp [PyData.showableAll], by simp [PyData.hasDictAll], by simp [PyData.depthAll]⟩
  | cons d ds ih =>
    obtain ⟨h1, h2, h3⟩ := ih fun x hx => h x (List.mem_cons_of_mem _ hx)
    have hd := h d List.mem_cons_self
    refine ⟨by simp only [PyData.showableAll, hd.sh, h1, Bool.and_self], by simp only [PyData.hasDictAll, hd.nd, h2, Bool.or_self], ?_⟩
    simp only [PyData.depthAll]
    exact Nat.max_le.mpr ⟨hd.dep, h3⟩
theorem sm_list {ds : List PyData} {m k : Nat} (h : ∀ d ∈ ds, Sm d m k) : Sm (.list ds) (m + 1) (ds.length * (k + 2) + 3) := by
  obtain ⟨h1, h2, h3⟩ := smAll h
  have hall : ∀ t ∈ PyData.shownAll ds, t.length ≤ k ∧ PyData.strOk t = true := by
    rw [shownAll_eq_map]
    intro t ht
    obtain ⟨d, hd, rfl⟩ := List.mem_map.mp ht
    exact ⟨(h d hd).len, (h d hd).ok⟩
  refine ⟨by simp only [PyData.showable, h1], by simp only [PyData.hasDict, h2], by simp only [PyData.depth]; omega, ?_, ?_⟩
  · simp only [PyData.shown]
    have a := listText_len_le (PyData.shownAll ds)
    have b := sum_le fun t ht => (hall t ht).1
    have c := PyData.shownAll_length ds
    rw [c] at a b
    have e : ds.length * (k + 2) = ds.length * k + ds.length * 2 := Nat.mul_add ..
    omega
  · simp only [PyData.shown]
    exact listText_ok fun t ht => (hall t ht).2
theorem join_ok : ∀ {ts : List Str}, (∀ t ∈ ts, PyData.strOk t = true) → PyData.strOk (Str.join ", " ts) = true
  | [], _ => by decide +kernel
  | [t], h => h t List.mem_cons_self
  | t :: u :: ts, h => ok_app (ok_app (h t List.mem_cons_self) (by decide +kernel)) (join_ok fun x hx => h x (List.mem_cons_of_mem _ hx))
theorem sm_tuple {ds : List PyData} {m k : Nat} (h : ∀ d ∈ ds, Sm d m k) : Sm (.tuple ds) (m + 1) (ds.length * (k + 2) + 3) := by
  obtain ⟨h1, h2, h3⟩ := smAll h
  have hall : ∀ t ∈ PyData.shownAll ds, t.length ≤ k ∧ PyData.strOk t = true := by
    rw [shownAll_eq_map]
    intro t ht
    obtain ⟨d, hd, rfl⟩ := List.mem_map.mp ht
    exact ⟨(h d hd).len, (h d hd).ok⟩
  refine ⟨by simp only [PyData.showable, h1], by simp only [PyData.hasDict, h2], by simp only [PyData.depth]; omega, ?_, ?_⟩
  · simp only [PyData.shown]
    have a := tupleText_len_le (PyData.shownAll ds)
    have b := sum_le fun t ht => (hall t ht).1
    have c := PyData.shownAll_length ds
    rw [c] at a b
    have e : ds.length * (k + 2) = ds.length * k + ds.length * 2 := Nat.mul_add ..
    omega
  · simp only [PyData.shown]
    unfold tupleText
    have j := join_ok fun t ht => (hall t ht).2
    have o : PyData.strOk "(" = true := by decide +kernel
    have c1 : PyData.strOk ",)" = true := by decide +kernel
    have c2 : PyData.strOk ")" = true := by decide +kernel
    split
    · exact ok_app (ok_app o j) c1
    · exact ok_app (ok_app o j) c2
theorem Sm.shw {K : PySem.W.Frag} {H : Hp} {v : V} {d : PyData} {m k : Nat} (h : Sm d m k) (hd : Dp K H v d) (hm : m ≤ 50) (hk : k ≤ 1000000) : Shw K H v d := ⟨hd, h.sh, h.nd, Nat.le_trans h.dep hm, Nat.le_trans h.len (Nat.le_trans hk (by decide)), h.ok⟩
theorem dpAll_app {K : PySem.W.Frag} {H : Hp} : ∀ {xs : List V} {ds : List PyData} {ys : List V} {es : List PyData}, DpAll K H xs ds → DpAll K H ys es → DpAll K H (xs ++ ys) (ds ++ es)
  | _, _, _, _, .nil, h => h
  | _, _, _, _, .cons h r, h2 => .cons h (dpAll_app r h2)
theorem dpAll_ms {K : PySem.W.Frag} {H : Hp} : ∀ l : List Str, DpAll K H (ms l) (l.map .str)
  | [] => .nil
  | z :: l => .cons (.str z) (dpAll_ms l)
theorem dpAll_ints {K : PySem.W.Frag} {H : Hp} : ∀ l : List Int, DpAll K H (l.map V.int) (l.map .int)
  | [] => .nil
  | z :: l => .cons (.int z) (dpAll_ints l)
theorem ofString_ok (s : String) : PyData.strOk (Str.ofString s) = true := by
  unfold PyData.strOk
  rw [PySem.Str.ofString_eq_toList, ← Array.all_toList, List.all_eq_true]
  intro x hx
  have hx2 : x ∈ s.toList.map Char.toNat := by simpa using hx
  obtain ⟨c, _, rfl⟩ := List.mem_map.mp hx2
  have h := c.valid
  unfold UInt32.isValidChar Nat.isValidChar at h
  have e : c.toNat = c.val.toNat := rfl
  rw [e]
  exact decide_eq_true (by omega)
theorem sm_int {i : Int} (h1 : -999999999999 ≤ i) (h2 : i ≤ 999999999999) : Sm (.int i) 0 13 := by
  refine ⟨?_, by simp [PyData.hasDict], by simp [PyData.depth], PyData.shown_int_le2 h1 h2, ?_⟩
  · simp only [PyData.showable]
    exact decide_eq_true (Nat.lt_trans (PySem.Flt.log2_lt_of (k := 64) (by decide) (show i.natAbs < 2 ^ 64 by omega)) (by decide))
  · simp only [PyData.shown]
    exact ofString_ok _
theorem sm_non : Sm .none 0 4 := ⟨by decide, by decide, by decide, by decide, by decide +kernel⟩
theorem sm_bl (b : Bool) : Sm (.bool b) 0 5 := by cases b <;> exact ⟨by decide, by decide, by decide, by decide, by decide +kernel⟩
theorem repr_char : ∀ c < 256, ∀ q ∈ [34, 39], (PySem.Builtin.Str.reprChar q c).all (· < 0x110000) = true := by decide +kernel
theorem sm_str {z : Str} (h : ∀ c ∈ z.cps.toList, c < 256) : Sm (.str z) 0 (10 * z.length + 2) := by
  refine ⟨by simp [PyData.showable], by simp [PyData.hasDict], by simp [PyData.depth], by simp only [PyData.shown]; exact StrLaws.reprText_len z fun c hc => Nat.lt_trans (h c hc) (by decide), ?_⟩
  simp only [PyData.shown]
  have hq : reprQuote z ∈ [34, 39] := by
    unfold reprQuote
    split <;> simp
  have hq2 : decide (reprQuote z < 0x110000) = true := by
    rcases (by simpa using hq : reprQuote z = 34 ∨ reprQuote z = 39) with e | e <;> rw [e] <;> rfl
  have key : ∀ (l : List Nat) (acc : Array Nat), (∀ c ∈ l, c < 256) → acc.all (· < 0x110000) = true → (l.foldl (fun out c => out ++ (PySem.Builtin.Str.reprChar (reprQuote z) c).toArray) acc).all (· < 0x110000) = true := by
    intro l
    induction l with
    | nil => intro acc _ h; exact h
    | cons c l ih =>
      intro acc hl ha
      rw [List.foldl_cons]
      refine ih _ (fun x hx => hl x (List.mem_cons_of_mem _ hx)) ?_
      rw [Array.all_append, ha, ← Array.all_toList]
      exact repr_char c (hl c List.mem_cons_self) _ hq
  unfold PyData.strOk reprText
  show ((z.cps.foldl (fun out c => out ++ (PySem.Builtin.Str.reprChar (reprQuote z) c).toArray) #[reprQuote z]).push (reprQuote z)).all _ = true
  rw [Array.all_push, ← Array.foldl_toList, key z.cps.toList _ h (by simpa using hq2), hq2]
  rfl
end Fx
/-! Sets of texts: {e for x in xs}, sorted of them -/
namespace Fx
open PySem PySem.Spec PyProof.Rows L2
theorem is_self (z : Str) (tk : Tok) : keyIs (.inr z) (.str z tk) = true := by
  show (z == z) = true
  simp
def zOf (e : Int × Value) : Str := match e.2 with
  | .str z _ => z
  | _ => ""
def TxtE (w : World) (e : Int × Value) : Prop := ∃ z tk, e.2 = Value.str z tk ∧ e.1 = keyH w (.inr z)
/-- the set of texts at a; L its members, each once -/
def SetS (w : World) (h : Heap) (a : Addr) (L : List Str) : Prop := ∃ (o : Obj) (es : Array (Int × Value)) (ep : Nat) (t : SetTable), h.get? a = some o ∧ o.ExactSet ∧ o.data = .set es ep t ∧ (∀ e ∈ es.toList, TxtE w e) ∧
  (es.toList.map zOf).Perm L ∧ L.Nodup ∧ es.size < scanBound ∧ t.fits es.size = true ∧ Ris t.place.toList ∧ (w.params.followText "set-order" = true ∨ t.led = true)
section
variable {P : Program} {w : World} {A : Around} {E : Value → Shared → Prop} {s : Shared} {h h' : Heap} {a : Addr} {L : List Str}
theorem SetS.keep (R : SetS w h a L) (k : ∀ o, h.get? a = some o → h'.get? a = some o) : SetS w h' a L := let ⟨o, es, ep, t, ho, r⟩ := R; ⟨o, es, ep, t, k o ho, r⟩
theorem mem_z {l : List (Int × Value)} (g : ∀ e ∈ l, TxtE w e) (z : Str) : z ∈ l.map zOf ↔ ∃ e ∈ l, (mixKind P w).is (.inr z) e.2 = true := by
  constructor
  · intro hz
    obtain ⟨e, he, ez⟩ := List.mem_map.mp hz
    obtain ⟨y, tk, e1, e2⟩ := g e he
    have ey : zOf e = y := by unfold zOf; rw [e1]
    refine ⟨e, he, ?_⟩
    rw [e1, ← ez, ey]
    exact is_self y tk
  · rintro ⟨e, he, hi⟩
    obtain ⟨y, tk, e1, e2⟩ := g e he
    refine List.mem_map.mpr ⟨e, he, ?_⟩
    rcases keyIs_shape (k := .inr z) (v := e.2) hi with ⟨i, t, k1, k2⟩ | ⟨x, t, k1, k2⟩
    · cases k1
    · cases k1
      unfold zOf
      rw [k2]
theorem elems_z {l : List (Int × Value)} (g : ∀ e ∈ l, TxtE w e) : ElemsOf (mixKind P w) l := fun e he => by
  obtain ⟨z, tk, h1, h2⟩ := g e he
  exact ⟨⟨.inr z, by rw [h1]; exact is_self z tk, h2⟩, by rw [h1] <;> rfl⟩
theorem putS_at {o : Obj} {es es' : Array (Int × Value)} {ep : Nat} {t t' : SetTable} (ho : h.get? a = some o) (hd : o.data = .set es ep t) : (h.update a (Obj.putSet es' t')).get? a = some { o with data := .set es' (ep + 1) t' } := by
  have q := Heap.get?_update_self (Obj.putSet es' t') ho (by rw [putSet_of es' t' hd] <;> rfl)
  rwa [putSet_of es' t' hd] at q
theorem addS_tail {g : Bool → Sem Unit} {o : Obj} {es es1 : Array (Int × Value)} {ep : Nat} {t t2 : SetTable} {L1 : List Str} {wasDummy : Bool} {R : Option Bool → Shared → Prop}
    (hg : ∀ (b : Bool) (s₁ : Shared) (Q' : Unit → Shared → Prop), Q' () s₁ → wpAny (model P w) A (g b) Q' E s₁) (ho : s.heap.get? a = some o) (hex : o.ExactSet) (hd : o.data = .set es ep t) (g1 : ∀ e ∈ es1.toList, TxtE w e)
    (p1 : (es1.toList.map zOf).Perm L1) (nd1 : L1.Nodup) (hb1 : es1.size < scanBound) (hf2 : t2.fits es1.size = true) (hr : Ris t2.place.toList) (hl : w.params.followText "set-order" = true ∨ t2.led = true)
    (hR : ∀ h', Heap.SameBut a s.heap h' → SetS w h' a L1 → R (some true) { s with heap := h' }) :
    wpAny (model P w) A (do
      storeSet a es1 t2
      if (!wasDummy && t2.tooFull) = true then do g (relayAll t2 es1 (SetTable.grown es1.size)).2.2; storeSet a (relayAll t2 es1 (SetTable.grown es1.size)).1 (relayAll t2 es1 (SetTable.grown es1.size)).2.1; pure (some true)
      else pure (some true)) R E s := by
  have ho1 := putS_at (es' := es1) (t' := t2) ho hd
  have b1 := Heap.SameBut.update s.heap a (Obj.putSet es1 t2)
  refine wpAny_bind (wpAny_storeSet_of ho hd ?_ (fits_of_scanBound hb1))
  split
  · have pm := relayAll_perm t2 es1 (SetTable.grown es1.size)
    have hf3 := relayAll_fits t2 es1 (SetTable.grown es1.size)
    have hr3 := relayAll_ris t2 es1 (SetTable.grown es1.size)
    have hl3 := relayAll_led t2 es1 (SetTable.grown es1.size)
    rcases hZ : relayAll t2 es1 (SetTable.grown es1.size) with ⟨es2, t3, gave⟩
    rw [hZ] at pm hf3 hr3 hl3
    dsimp only at pm hf3 hr3 hl3 ⊢
    have hsz : es2.size = es1.size := by rw [← Array.length_toList, pm.length_eq, Array.length_toList]
    have hb2 : es2.size < scanBound := hsz ▸ hb1
    refine wpAny_bind (hg _ _ _ (wpAny_bind (wpAny_storeSet_of ho1 rfl ?_ (fits_of_scanBound hb2))))
    refine wpAny_pure (hR _ (b1.trans (Heap.SameBut.update _ a _)) ⟨_, es2, _, t3, putS_at (es' := es2) (t' := t3) ho1 rfl, hex, rfl, fun e he => g1 e (pm.mem_iff.mp he), (pm.map zOf).trans p1, nd1, hb2, hf3, hr3, hl.imp id fun z => ?_⟩)
    rw [hl3]
    exact z
  · exact wpAny_pure (hR _ b1 ⟨_, es1, _, t2, ho1, hex, rfl, g1, p1, nd1, hb1, hf2, hr, hl⟩)
/-- with one more -/
def plus (L : List Str) (z : Str) : List Str := if z ∈ L then L else z :: L
theorem addS_hashed {z : Str} {tk : Tok} {Q : Bool → Shared → Prop} (R : SetS w s.heap a L) (room : L.length + 1 < scanBound)
    (hQ : ∀ h' b, Heap.SameBut a s.heap h' → SetS w h' a (plus L z) → Q b { s with heap := h' }) : wpAny (model P w) A (setAddHashed a (.str z tk) ((mixKind P w).hash (.inr z))) Q E s := by
  obtain ⟨o, es, ep, t, ho, hex, hd, g, pL, nd, hb, hf, hr, hl⟩ := R
  have hkey : (mixKind P w).is (.inr z) (.str z tk) = true := is_self z tk
  have hsc : (Value.str z tk).scannable = true := rfl
  have hel : ElemsOf (mixKind P w) es.toList := elems_z g
  have hn : es.size = L.length := by rw [← Array.length_toList, ← List.length_map (f := zOf), pL.length_eq]
  unfold setAddHashed setAddHashedIn
  refine wpAny_holding (wpAny_bind (wpAny_setState_of ho hd hf ?_))
  dsimp only
  rw [byScan_of hsc hb hel, if_pos rfl]
  unfold setAddByScan
  refine wpAny_bind (wpAny_bind (wpAny_rule (wpAny_bind (wpAny_setScan_of hkey ho hd hf hel ?_))))
  cases hfi : List.findIdx? (fun e => (mixKind P w).is (.inr z) e.2) es.toList with
  | some j =>
    dsimp only
    obtain ⟨hj, pj, _⟩ := List.findIdx?_eq_some_iff_getElem.mp hfi
    have hz : z ∈ L := pL.mem_iff.mp ((mem_z (P := P) g z).mpr ⟨es.toList[j], List.getElem_mem hj, pj⟩)
    refine wpAny_pure (wpAny_pure (hQ s.heap _ (Heap.SameBut.refl a s.heap) ?_))
    unfold plus
    rw [if_pos hz]
    exact ⟨o, es, ep, t, ho, hex, hd, g, pL, nd, hb, hf, hr, hl⟩
  | none =>
    dsimp only
    have hz : z ∉ L := fun k => by
      obtain ⟨e, he, q⟩ := (mem_z (P := P) g z).mp (pL.mem_iff.mpr k)
      exact Bool.noConfusion ((List.findIdx?_eq_none_iff.mp hfi e he).symm.trans q)
    have hgw : ∀ (b : Bool) {s₁ : Shared} {Q' : Unit → Shared → Prop}, Q' () s₁ → wpAny (model P w) A (match b with | true => rule "set.scan.the-table-gave-way" | false => pure ()) Q' E s₁ := by
      intro b s₁ Q' q
      cases b
      · exact wpAny_pure q
      · exact wpAny_rule q
    have pm := layNew_perm t es ((mixKind P w).hash (.inr z)) (.str z tk)
    have hf1 := layNew_fits t es ((mixKind P w).hash (.inr z)) (.str z tk)
    have hr1 := layNew_ris t es ((mixKind P w).hash (.inr z)) (.str z tk) hr
    have hl1 := layNew_led t es ((mixKind P w).hash (.inr z)) (.str z tk)
    rcases hZ : layNew t es ((mixKind P w).hash (.inr z)) (.str z tk) with ⟨es1, t1, wasDummy, gave⟩
    rw [hZ] at pm hf1 hr1 hl1
    dsimp only at pm hf1 hr1 hl1 ⊢
    rw [Array.toList_push] at pm
    have pc : es1.toList.Perm (((mixKind P w).hash (.inr z), Value.str z tk) :: es.toList) := pm.trans (List.perm_append_singleton _ _)
    have pk : (es1.toList.map zOf).Perm (z :: L) := (pc.map zOf).trans (pL.cons z)
    have g1 : ∀ e ∈ es1.toList, TxtE w e := by
      intro e he
      rcases List.mem_cons.mp (pc.mem_iff.mp he) with q | q
      · exact q ▸ ⟨z, tk, rfl, rfl⟩
      · exact g e q
    have nd1 : (z :: L).Nodup := List.nodup_cons.mpr ⟨hz, nd⟩
    have hb1 : es1.size < scanBound := by rw [← Array.length_toList, pc.length_eq, List.length_cons, Array.length_toList, hn]; exact room
    have hled : w.params.followText "set-order" = true ∨ t1.led = true := hl.imp id fun q => by rw [hl1]; exact q
    have fin : ∀ h' b, Heap.SameBut a s.heap h' → SetS w h' a (z :: L) → Q b { s with heap := h' } := fun h' b sb r => hQ h' b sb (by unfold plus; rw [if_neg hz]; exact r)
    refine wpAny_bind (hgw _ ?_)
    split
    · refine wpAny_bind ?_
      rw [hashByValue_scannable 8 hsc]
      refine wpAny_pure ?_
      refine addS_tail (fun b s₁ Q' q => hgw b q) ho hex hd g1 pk nd1 hb1 ?_ ?_ ?_ fun h' sb r => ?_
      · first
        | exact hf1
        | (split
           · first | exact hf1 | exact SetTable.fits_plain_off hf1
           · first | exact hf1 | exact SetTable.fits_plain_off hf1)
      · first | exact hr1 | (split <;> exact hr1)
      · first | exact hled | (split <;> exact hled)
      · dsimp only
        exact wpAny_pure (fin h' _ sb r)
    · refine wpAny_bind (wpAny_pure ?_)
      simp only [↓reduceIte]
      exact addS_tail (fun b s₁ Q' q => hgw b q) ho hex hd g1 pk nd1 hb1 hf1 hr1 hled fun h' sb r => by dsimp only; exact wpAny_pure (fin h' _ sb r)
end
/-- found.add(z) -/
theorem addS {P : Program} {w : World} {A : Around} {E : Value → Shared → Prop} {s : Shared} {a : Addr} {L : List Str} {z : Str} {tk : Tok} {Q : Value → Shared → Prop} (R : SetS w s.heap a L) (room : L.length + 1 < scanBound)
    (hQ : ∀ h', Heap.SameBut a s.heap h' → SetS w h' a (plus L z) → Q .none { s with heap := h', toks := s.toks + 1 }) : wpAny (model P w) A (call (.builtin "set.add") [.ref a, .str z tk]) Q E s := by
  have ty : s.TypeIs (.ref a) "set" := let ⟨o, _, _, _, ho, hex, _⟩ := R; ⟨o, ho, hex.1⟩
  refine wpAny_call_entry PySem.F.slot_set_add ty PySem.F.entry_set_add ?_ (PySem.F.args_set_add_2 _ _)
  unfold Builtin.«set.add» Builtin.Frozenset.oneOther
  simp only [List.isEmpty_nil, bind_assoc]
  unfold Builtin.Frozenset.addrOf setAdd
  refine wpAny_bind (wpAny_pure ?_)
  try dsimp only
  refine wpAny_bind (wpAny_pure ?_)
  try dsimp only
  refine wpAny_bind (wpAny_holding (wpAny_bind ((mixKind P w).pyHash (k := .inr z) (is_self z tk) ?_)))
  exact addS_hashed (s := { s with toks := s.toks + 1 }) R room fun h' b sb r => wpAny_pure ⟨_, rfl, hQ h' sb r⟩
theorem freshS {h : Heap} (w : World) : SetS w (h.push { cls := .type "set", dict := none, data := .set #[] 0 (.fresh 0 0 (!w.params.followText "set-order")) }) h.objs.size [] := by
  refine ⟨_, #[], 0, _, Heap.get?_push_size _ rfl, ⟨rfl, rfl, rfl⟩, rfl, fun e he => by simp at he, .refl _, .nil, by decide, by rfl, List.Pairwise.nil, ?_⟩
  show w.params.followText "set-order" = true ∨ (!w.params.followText "set-order") = true
  cases w.params.followText "set-order" <;> simp
/-- the set of texts at a, as a tracked thing -/
def SetSO (w : World) (a : Addr) (L : List Str) : HO := .ext fun h => SetS w h a L
theorem setSO_ok {w : World} {P : Program} {H : Hp} {h : Heap} {a : Addr} {L : List Str} (R : SetS w h a L) : ObjOk P w H h a (SetSO w a L) := ⟨R, let ⟨o, _, _, _, ho, _⟩ := R; ⟨o, ho⟩, fun _ _ p k => SetS.keep p k⟩
theorem setSO_at {X : Cx} {pins : List (Addr × Obj)} {σ : L2.St} {H : Hp} {s : Shared} {a : Addr} {L : List Str} (I : Inv X pins σ H s) (ha : H a = some (SetSO X.w a L)) : SetS X.w s.heap a L := (I.hok a _ ha).1
theorem addSO {X : Cx} {pins : List (Addr × Obj)} {σ : L2.St} {H : Hp} {s : Shared} {E : Value → Shared → Prop} {D : Addr} {L : List Str} {z : Str} {tk : Tok} {Q : Value → Shared → Prop} (I : Inv X pins σ H s) (hD : H D = some (SetSO X.w D L)) (room : L.length + 1 < scanBound)
    (h : ∀ s', Inv X pins σ (upd H D (SetSO X.w D (plus L z))) s' → Q .none s') : wpAny (model X.prog X.w) X.A (call (.builtin "set.add") [.ref D, .str z tk]) Q E s := by
  refine addS (setSO_at I hD) room fun h' sb new => h _ (I.write (e := D) (t' := s.toks + 1) (by rw [hD]; trivial) (.inl rfl) (fun b u hb hu => (sb.2 b hb).trans hu) ?_ (setSO_ok new))
  obtain ⟨o, _, _, _, ho, _⟩ := new
  exact ⟨o, ho⟩
/-- {elt for target in iter if ..}, texts: D the new set -/
def tScS (w : World) (wi : TI) (g : TG) (tt : TT) (te : TE) (vs : List Nat) : TE := fun σ H Q => wi σ H fun J H1 => ∀ D, H1 D = none → ∃ W : Nat → Nat → Hp → Prop, (∃ m, W 0 m (upd H1 D (SetSO w D []))) ∧ ∀ i m H, W i m H →
  (J.stop i H ∧ Q (.ref D) H) ∨ (J.go i H ∧ ∃ Nx : Hp → Prop, (∀ H', Nx H' → ∃ m', m' < m ∧ W (i + 1) m' H') ∧ ∀ x H', J.yld i H x H' → g x (wipe σ vs) H' fun σ2 H2 => wipe σ2 vs = wipe σ vs ∧ tt σ2 H2 fun b H3 =>
    if b = true then te σ2 H3 fun y H4 => ∃ (z : Str) (L : List Str), y = .str z ∧ H4 D = some (SetSO w D L) ∧ L.length + 1 < scanBound ∧ Nx (upd H4 D (SetSO w D (plus L z))) else Nx H3)
section
variable {X : Cx} {elt tg iter : Expr} {ifs : List Expr} {scope : Scope} {own : List (PySem.Str × Nat)} {pos : Pos} {wi : TI} {g : TG} {tt : TT} {te : TE}
theorem coreS {pins : List (Addr × Obj)} {s : Shared} {σ : L2.St} {H : Hp} {Q : VK} {pos' : Pos} {use : Option (Value → Sem Unit)} {Qf : Value → Shared → Prop} (hc : X.calm = true) (hN : X.N.Nodup) (I : Inv X pins σ H s) (hi : PI X tg iter wi) (ok : BlkOk X.N X.env.scope scope own)
    (hg : ∀ (s : Shared) (H : Hp) (C : Addr) (cl : List (PySem.Str × Addr)) (fp : List Addr), PG (X.blk s H scope (compEnvC scope cl C X.env) fp) tg g)
    (ht : ∀ (s : Shared) (H : Hp) (C : Addr) (cl : List (PySem.Str × Addr)) (fp : List Addr), PTs (X.blk s H scope (compEnvC scope cl C X.env) fp) ifs tt)
    (he : ∀ (s : Shared) (H : Hp) (C : Addr) (cl : List (PySem.Str × Addr)) (fp : List Addr), PE (X.blk s H scope (compEnvC scope cl C X.env) fp) elt te) (hs : ∀ x, foldedSetIterable iter X.env x = pure x) (h : tScS X.w wi g tt te (own.map (·.2)) σ H Q)
    (hRR : ∀ D C s' m H', Inv X pins σ H' s' → Q (.ref D) H' → s'.heap.Ns C m → FpOk X pins H' C → compPost (model X.prog X.w) X.A X.xe use Qf (.ref D) C (.ok .next) s') :
    wpAny (model X.prog X.w) X.A (comprehension (.SetComp elt [⟨tg, iter, ifs, 0⟩] scope pos) scope X.env pos' (newSet (.type "set")) false (eval iter X.env) use) Qf X.xe s := by
  have fr : ∀ y ∈ scope.names, y.2 = .free → ∃ c, X.env.cells.lookup y.1 = some c := fun y hy e => by
    rcases ok.free y hy e with k | k <;> exact I.ok.has _ (by first | exact .inl k | exact .inr k)
  refine wpAny_comprehension_free (use := use) rfl hs (closure_ok fr) ok.kind (fun y hy e => by rw [ok.uniq y hy, e]) (thn (hi.run pins s σ H _ I h) fun xv s1 hx => thn hx fun itv s2 h2 => ?_)
  obtain ⟨it, fp, tn, J, H2, rfl, I2, T, st2, f2, q⟩ := h2
  refine PpSet.newSet_ok (newEnv_comp ?_)
  generalize hD : s2.heap.objs.size = D
  have hDn : H2 D = none := I2.hok.fresh (Nat.le_of_eq hD)
  obtain ⟨W, ⟨m0, w0⟩, turn⟩ := q D hDn
  generalize hs3 : ({ s2 with heap := s2.heap.push { cls := .type "set", dict := none, data := .set #[] 0 (.fresh 0 0 (!X.w.params.followText "set-order")) } } : Shared) = s3
  have h3 : s3.heap = s2.heap.push { cls := .type "set", dict := none, data := .set #[] 0 (.fresh 0 0 (!X.w.params.followText "set-order")) } := hs3 ▸ rfl
  have I3 : Inv X pins σ (upd H2 D (SetSO X.w D [])) s3 := by
    subst hs3
    refine I2.laid (t' := s2.toks) (fun b o e => Heap.get?_push_of_some _ e) (Nat.le_of_eq hD) ?_
    subst hD
    exact setSO_ok (freshS X.w)
  have sz : ∀ b ∈ fp, b < s2.heap.objs.size := fun b hb => let ⟨o, e, _⟩ := T.obj _ _ st2 b hb; Heap.lt_size e
  have f3 : ∀ b ∈ fp, FpOk X pins (upd H2 D (SetSO X.w D [])) b ∧ b < s3.heap.objs.size := fun b hb => by
    have lt := sz b hb
    refine ⟨⟨?_, (f2 b hb).2⟩, by rw [h3, Heap.size_push]; exact Nat.lt_succ_of_lt lt⟩
    rw [upd_ne (by rw [← hD]; exact Nat.ne_of_lt lt)]
    exact (f2 b hb).1
  have st3 : tn 0 s3.heap := T.keep _ _ _ st2 fun b _ o e => by rw [h3]; exact Heap.get?_push_of_some _ e
  have I4 := block_start I3 ok hN f3
  let cl := cellsFrom (s3.heap.objs.size + 1) scope.names (cloFrom X.env.cells scope.names [])
  have pg := hg s3 (upd H2 D (SetSO X.w D [])) s3.heap.objs.size cl fp
  have pt := ht s3 (upd H2 D (SetSO X.w D [])) s3.heap.objs.size cl fp
  have pe := he s3 (upd H2 D (SetSO X.w D [])) s3.heap.objs.size cl fp
  show codeAny _ _ (.compStart (.SetComp elt [⟨tg, iter, ifs, 0⟩] scope pos) 0 (.ref it) (.ref D) (compEnvC scope cl s3.heap.objs.size X.env)) (compPost (model X.prog X.w) X.A X.xe use Qf (.ref D) s3.heap.objs.size) { s3 with heap := pushCells (s3.heap.push { cls := .type "dict", data := .dict #[] }) scope.names }
  have nfp : ∀ b ∈ fp, (upd H2 D (SetSO X.w D [])) b = none := fun b hb => (f3 b hb).1.1
  generalize hce : compEnvC scope cl s3.heap.objs.size X.env = ce at pg pt pe ⊢
  have I4 : Inv (X.blk s3 (upd H2 D (SetSO X.w D [])) scope ce fp) [] (wipe σ (own.map (·.2))) (upd H2 D (SetSO X.w D [])) _ := hce ▸ I4
  have cL : ce.locals = s3.heap.objs.size := by subst hce; rfl
  generalize hH3 : upd H2 D (SetSO X.w D []) = H3 at I3 I4 pg pt pe w0 nfp f3
  generalize hs4 : ({ s3 with heap := pushCells (s3.heap.push { cls := .type "dict", data := .dict #[] }) scope.names } : Shared) = s4 at I4 ⊢
  have st4 : tn 0 s4.heap := T.keep _ _ _ st3 fun b _ o e => by rw [← hs4]; exact pushCells_keeps _ _ _ _ (Heap.get?_push_of_some _ e)
  have stat : ∀ {σ' : L2.St} {H' : Hp} {s' : Shared}, Inv (X.blk s3 H3 scope ce fp) [] σ' H' s' → (∀ b ∈ fp, H' b = none) → ∀ b ∈ fp, FpOk (X.blk s3 H3 scope ce fp) [] H' b := by
    intro σ' H' s' I' hn b hb
    exact ⟨hn b hb, (I'.ok.exf b hb).1, I'.ok.exfs b hb, .inl hb, fun x c e => (I'.ok.exf b hb).2 x c e, fun p hp => absurd (show p ∈ ([] : List (Addr × Obj)) ++ [] from hp) (by simp)⟩
  have loop : codeAny (model X.prog X.w) X.A (.compLoop (.SetComp elt [⟨tg, iter, ifs, 0⟩] scope pos) 0 (.ref it) (.ref D) ce) (compPost (model X.prog X.w) X.A X.xe use Qf (.ref D) s3.heap.objs.size) s4 := by
    refine PpSet.compLoopS_any (fun n s' => ∃ i H', Inv (X.blk s3 H3 scope ce fp) [] (wipe σ (own.map (·.2))) H' s' ∧ tn i s'.heap ∧ (∀ b ∈ fp, H' b = none) ∧ W i n H') (fun n s5 hI => ?_) m0 ⟨0, H3, I4, st4, nfp, w0⟩
    obtain ⟨i, H5, I5, st5, n5, w5⟩ := hI
    rcases turn i n H5 w5 with ⟨stop, qq⟩ | ⟨go, Nx, hNx, step⟩
    · refine thnF (T.done (X.blk s3 H3 scope ce fp) rfl rfl rfl hc i [] s5 _ H5 (fun _ _ => False) I5 (stat I5 n5) st5 stop) fun r s6 ⟨hr, I6⟩ => ?_
      subst hr
      have I7 : Inv X pins σ H5 s6 := I3.call' (ch := fp) I6.os I6.base I6.hok I6.bare fun b hb => ⟨(f3 b hb).1.2.2.2.1, (f3 b hb).1.2.1, (f3 b hb).1.2.2.2.2.1, (f3 b hb).1.2.2.2.2.2⟩
      have nC : H5 s3.heap.objs.size = none := cL ▸ (show H5 ce.locals = none from I6.free)
      obtain ⟨m, hn, _⟩ := I6.loc
      have hn : s6.heap.Ns ce.locals m := hn
      exact hRR D s3.heap.objs.size s6 m H5 I7 qq (cL ▸ hn) (I3.fpOk (Nat.le_refl _) nC)
    · refine thnF (T.item (X.blk s3 H3 scope ce fp) rfl rfl rfl hc i [] s5 _ H5 (fun _ _ => False) I5 (stat I5 n5) st5 go) fun r s6 ⟨u, hr, h6⟩ => ?_
      subst hr
      refine thnF h6 fun _ s7 ⟨x, H7, I7, r7, y7, st7, n7⟩ => ?_
      refine thnF (pg.run _ s7 _ H7 x u _ (I7.pinned (stat I7 n7) (T.obj _ _ st7)) r7 (step x H7 y7)) fun _ s8 ⟨σ8, H8, I8, hw8, q8⟩ => thnF (pt.run _ s8 σ8 H8 _ I8 q8) fun b s9 ⟨H9, I9, q9⟩ => ?_
      have fin : ∀ {s' : Shared} {H' : Hp}, Inv (X.blk s3 H3 scope ce fp) ([] ++ pinsAt fp s7.heap) σ8 H' s' → Nx H' → ∃ m, m < n ∧ ∃ i H', Inv (X.blk s3 H3 scope ce fp) [] (wipe σ (own.map (·.2))) H' s' ∧ tn i s'.heap ∧ (∀ b ∈ fp, H' b = none) ∧ W i m H' := by
        intro s' H' I' nx
        obtain ⟨m', hm, w'⟩ := hNx H' nx
        have pin' : ∀ b ∈ fp, ∀ o, s7.heap.get? b = some o → s'.heap.get? b = some o ∧ H' b = none := fun b hb o e => let k := I'.pin (b, o) (List.mem_append_right _ (List.mem_append_right _ (mem_pinsAt hb e))); ⟨k.1, k.2.1⟩
        refine ⟨m', hm, i + 1, H', (I'.unpinned (pins := [])).weak (by rw [← hw8, wipe_length]) (fun j v e => ?_), T.keep _ _ _ st7 fun b hb o e => (pin' b hb o e).1, fun b hb => ?_, w'⟩
        · exact (wipe_some (hw8 ▸ e)).1
        · obtain ⟨o, e, _⟩ := T.obj _ _ st7 b hb
          exact (pin' b hb o e).2
      cases b
      · simp only [Bool.false_eq_true, if_false] at q9 ⊢
        exact fin I9 q9
      · simp only [if_true] at q9 ⊢
        refine thnF (pe.run _ s9 σ8 H9 _ I9 q9) fun v s10 ⟨yv, H10, I10, r10, z, L0, ey, hD10, hz10, nx⟩ => ?_
        subst ey
        obtain ⟨tk, rfl⟩ := r10
        exact addSO (X := X.blk s3 H3 scope ce fp) I10 hD10 hz10 fun s11 I11 => fin I11 nx
  exact PpSet.codeAny_compStart_set loop (T.self X.A 0 _ _ _ st4 loop)
theorem pe_scS (hc : X.calm = true) (hN : X.N.Nodup) (hi : PI X tg iter wi) (ok : BlkOk X.N X.env.scope scope own) (hg : ∀ (s : Shared) (H : Hp) (C : Addr) (cl : List (PySem.Str × Addr)) (fp : List Addr), PG (X.blk s H scope (compEnvC scope cl C X.env) fp) tg g)
    (ht : ∀ (s : Shared) (H : Hp) (C : Addr) (cl : List (PySem.Str × Addr)) (fp : List Addr), PTs (X.blk s H scope (compEnvC scope cl C X.env) fp) ifs tt) (he : ∀ (s : Shared) (H : Hp) (C : Addr) (cl : List (PySem.Str × Addr)) (fp : List Addr), PE (X.blk s H scope (compEnvC scope cl C X.env) fp) elt te)
    (hs : ∀ x, foldedSetIterable iter X.env x = pure x := by intro _; rfl) : PE X (.SetComp elt [⟨tg, iter, ifs, 0⟩] scope pos) (tScS X.w wi g tt te (own.map (·.2))) := by
  refine ⟨fun pins s σ H Q I h => ?_⟩
  rw [PpSet.eval_SetComp]
  refine coreS hc hN I hi ok hg ht he hs h fun D C s' m H' I' q hn ⟨f0, f1, f2, f3, f4, f5⟩ => ⟨m, hn, fun h'' sb => ⟨.ref D, H', I'.turned (t' := s'.toks) (fun b o hb e => (sb.2 b hb).trans e) f0 f1 f3 f4 f5, rfl, q⟩⟩
end
/-- over a list or a tuple that the block leaves as it is -/
theorem sc_Q {w : World} {K : PySem.W.Frag} {a : Addr} {j : Nat} {xs : List V} {g : TG} {tt : TT} {te : TE} {vs : List Nat} {σ : L2.St} {H : Hp} {Q : VK} (hv : σ[j]? = some (some (.ref a))) (hq : SqL K H a xs ∨ SqT K H a xs) (Pv : Nat → Addr → Hp → Prop)
    (hS : ∀ i D H', Pv i D H' → (SqL K H a xs → SqL K H' a xs) ∧ (SqT K H a xs → SqT K H' a xs)) (h0 : ∀ D, H D = none → Pv 0 D (upd H D (SetSO w D [])))
    (hs : ∀ i D x H', xs[i]? = some x → Pv i D H' → g x (wipe σ vs) H' fun σ2 H2 => wipe σ2 vs = wipe σ vs ∧ tt σ2 H2 fun b H3 =>
      if b = true then te σ2 H3 fun y H4 => ∃ (z : Str) (L : List Str), y = .str z ∧ H4 D = some (SetSO w D L) ∧ L.length + 1 < scanBound ∧ Pv (i + 1) D (upd H4 D (SetSO w D (plus L z))) else Pv (i + 1) D H3)
    (hd : ∀ D H', Pv xs.length D H' → Q (.ref D) H') : tScS w (iQ K (tVar j)) g tt te vs σ H Q := by
  have run : ∀ (J : It) (D : Addr), H D = none → (∀ i H', Pv i D H' → i ≤ xs.length → (i < xs.length → J.go i H' ∧ ∀ x H'', J.yld i H' x H'' → H'' = H' ∧ xs[i]? = some x) ∧ (i = xs.length → J.stop i H')) → ∃ W : Nat → Nat → Hp → Prop, (∃ m, W 0 m (upd H D (SetSO w D []))) ∧ ∀ i m H, W i m H →
      (J.stop i H ∧ Q (.ref D) H) ∨ (J.go i H ∧ ∃ Nx : Hp → Prop, (∀ H', Nx H' → ∃ m', m' < m ∧ W (i + 1) m' H') ∧ ∀ x H', J.yld i H x H' → g x (wipe σ vs) H' fun σ2 H2 => wipe σ2 vs = wipe σ vs ∧ tt σ2 H2 fun b H3 =>
        if b = true then te σ2 H3 fun y H4 => ∃ (z : Str) (L : List Str), y = .str z ∧ H4 D = some (SetSO w D L) ∧ L.length + 1 < scanBound ∧ Nx (upd H4 D (SetSO w D (plus L z))) else Nx H3) := by
    intro J D nD hJ
    refine ⟨fun i m H' => m = xs.length - i ∧ i ≤ xs.length ∧ Pv i D H', ⟨_, rfl, Nat.zero_le _, h0 D nD⟩, ?_⟩
    rintro i m H' ⟨rfl, hi, p⟩
    obtain ⟨j1, j2⟩ := hJ i H' p hi
    by_cases hlt : i < xs.length
    · obtain ⟨go, y⟩ := j1 hlt
      refine .inr ⟨go, Pv (i + 1) D, fun H' p' => ⟨xs.length - (i + 1), by omega, rfl, hlt, p'⟩, fun x H'' hy => ?_⟩
      obtain ⟨rfl, hx⟩ := y x H'' hy
      exact hs i D x _ hx p
    · obtain rfl : i = xs.length := by omega
      exact .inl ⟨j2 rfl, hd D H' p⟩
  rcases hq with hq | hq
  · refine .inl ⟨_, hv, a, rfl, ⟨_, hq⟩, fun D nD => run _ D nD fun i H' p hi => ?_⟩
    have q := (hS i D H' p).1 hq
    exact ⟨fun lt => ⟨⟨xs, xs[i], q, by simp [lt]⟩, fun x H'' y => ⟨y.1, y.2 xs q⟩⟩, fun e => ⟨xs, q, Nat.le_of_eq e.symm⟩⟩
  · refine .inr ⟨_, hv, a, rfl, ⟨_, hq⟩, fun D nD => run _ D nD fun i H' p hi => ?_⟩
    have q := (hS i D H' p).2 hq
    exact ⟨fun lt => ⟨⟨xs, xs[i], q, by simp [lt]⟩, fun x H'' y => ⟨y.1, y.2 xs q⟩⟩, fun e => ⟨xs, q, Nat.le_of_eq e.symm⟩⟩
/-- sorted(found) -/
def rSortZ (w : World) : List V → Hp → VK → Prop := fun vs H Q => ∃ a, vs = [V.ref a] ∧ ∃ L, H a = some (SetSO w a L) ∧ ∀ (ys : List Str) (p : Addr), ys.Perm L → L.Nodup → sortedS ys = true → H p = none → Q (.ref p) (upd H p (.lst (ms ys)))
theorem strs_of : ∀ (l : List Value), (∀ v ∈ l, ∃ z tk, v = Value.str z tk) → StrsAre l (l.map fun v => zOf (0, v))
  | [], _ => .nil
  | v :: l, h => by
    obtain ⟨z, tk, rfl⟩ := h v List.mem_cons_self
    exact .cons z tk (strs_of l fun u hu => h u (List.mem_cons_of_mem _ hu))
theorem sort_Z {X : Cx} (hc : X.calm = true) : CallR X (.builtin "sorted") (rSortZ X.w) := by
  intro pins s σ H vs us Q I r h
  obtain ⟨a, rfl, L, ha, q⟩ := h
  obtain ⟨o, es, ep, t, ho, hex, hd, g, pL, nd, hb, hf, hr, hl⟩ := setSO_at I ha
  rw [Vals.ref1 r]
  have hn : es.size = L.length := by rw [← Array.length_toList, ← List.length_map (f := zOf), pL.length_eq]
  have hL : L.length ≤ sizeLine := by rw [← hn]; exact fits_of_scanBound hb
  refine Calls.call_function_entry kind_sorted plain_sorted entry_sorted (args_sorted1 _) ?_
  unfold Builtin.«sorted»
  refine wpAny_bind (m := checkCount "sorted" 1 1 _) (wpAny_pure (wpAny_bind (collect_set (A := X.A.in1) (I.ok.hd hc) ⟨o, ho, hex.1, hd⟩ hf hb hr hl fun s1 vs k1 hz g1 o1 pm => ?_)))
  have hvl : vs.length = L.length := by rw [pm.length_eq, List.length_map, Array.length_toList, hn]
  have hI : StrsAre vs (vs.map fun v => zOf (0, v)) := strs_of vs fun v hv => by
    obtain ⟨e, he, rfl⟩ := List.mem_map.mp (pm.mem_iff.mp hv)
    obtain ⟨z, tk, h1, _⟩ := g e he
    exact ⟨z, tk, h1⟩
  have pk : (vs.map fun v => zOf (0, v)).Perm L := by
    refine List.Perm.trans (l₂ := es.toList.map zOf) ?_ pL
    have k := pm.map fun v => zOf (0, v)
    rw [List.map_map] at k
    exact k
  refine wpAny_bind (wpAny_newList ?_ (by rw [hvl]; exact hL))
  have hoL : (s1.heap.push (seqObj "list" vs.toArray 0)).get? s1.heap.objs.size = some (seqObj "list" vs.toArray 0) := Heap.get?_push_size _ rfl
  refine wpAny_bind (wpAny_holding (wpAny_call_entry slot_list_sort ⟨_, hoL, rfl⟩ entry_list_sort (list_sort_treeKAny (κ := strKind) strKind_oneLt hoL hI.keysOf (fun v₁ v₂ rest e => keyKind_strs (by rw [← e]; exact hI)) (by rw [hvl]; exact hL) fun st' hp hs => ?_) (args_list_sort _)))
  obtain ⟨ys, y1, y2, y3⟩ := sorted_out_str hI hp hs
  obtain ⟨c, hcc⟩ := sortedHeap_at (vs := vs) (out := (arrOf st').map (·.2)) hoL
  have old : ∀ b u, s.heap.get? b = some u → (sortedHeap (s1.heap.push (seqObj "list" vs.toArray 0)) s1.heap.objs.size vs ((arrOf st').map (·.2))).get? b = some u := fun b u e => by
    have k := k1 b u e
    have lt := Heap.lt_size k
    rw [sortedHeap_old (Nat.ne_of_lt lt) (by rw [size_push']; exact Nat.lt_succ_of_lt lt)]
    exact Heap.get?_push_of_some _ k
  have hlen : (ms ys).length ≤ sizeLine := by rw [List.length_map, y2.length_eq, List.length_map, hvl]; exact hL
  have hp0 : H s1.heap.objs.size = none := I.hok.fresh hz
  generalize sortedHeap (s1.heap.push (seqObj "list" vs.toArray 0)) s1.heap.objs.size vs ((arrOf st').map (·.2)) = h2 at old hcc
  have J : Inv X pins σ (upd H s1.heap.objs.size (.lst (ms ys))) { s with heap := h2, gens := s1.gens, drawn := s1.drawn, toks := s1.toks } := I.call (ch := []) (Un.laid old hz hp0) (I.hok.laid old hz ⟨hlen, _, c, vals_of_strs y1, hcc⟩) (by rw [g1]; exact I.bare) (fun _ k => nomatch k)
  have e : ({ s1 with heap := h2 } : Shared) = { s with heap := h2, gens := s1.gens, drawn := s1.drawn, toks := s1.toks } := by
    cases s1
    cases s
    cases o1
    rfl
  refine ⟨_, rfl, wpAny_pure ⟨_, rfl, .ref s1.heap.objs.size, _, ?_, rfl, q ys _ (y2.trans pk) nd y3 hp0⟩⟩
  show Inv X pins σ _ ({ s1 with heap := h2 } : Shared)
  rw [e]
  exact J
end Fx
/-! o(e, ..), the class of o has a __call__; o op p in a try's body -/
namespace Fx
open PySem PySem.Spec PySem.Calls PyProof.Rows L2
section
variable {M : Model} {A : Around} {E : Value → Shared → Prop} {s : Shared} {K : PySem.W.Frag} {pos : Pos} {x C : Addr} {Q : Value → Shared → Prop}
theorem own_with {args : List (Bool × Sem Value)} (hp : args.any (·.1) = false) (h : wpAny M A (evalArgs (.ref x) true args []) (fun a s₁ => (∃ ox od, PySem.W.InstAt s₁.heap x ox C od ∧ ox.data = .plain) ∧ wpAny M A (call (.ref x) a.pos a.kw) Q E s₁) E s) : wpAny M A (callWith pos (.ref x) [] args []) Q E s := by
  unfold callWith
  refine wpAny_bind (wpAny_holding (wpAny_mono h (fun a s₁ ⟨⟨ox, od, J, hd⟩, hc⟩ => wpAny_bind (wpAny_standAt ?_)) fun _ _ y => y))
  have pl : (args.any (·.1) || ([] : List (Option Str × Sem Value)).any (·.1.isNone)) = false := by rw [hp]; rfl
  simp only [pl]
  refine wpAny_bind ((PySem.W.kco_keeper (M := M) J hd).here (wpAny_bind (wpAny_mono (wpAny_operateT hc) (fun r s₂ hr => wpAny_bind (wpAny_holding (wpAny_point (wpAny_pure hr)))) fun _ _ y => y)))
end
section
variable {X : Cx} {k : Nat} {C : Addr} {CX : CXT} {ps : List Str} {sp : Sp} {W : WX} {x : Str} {p pos : Pos} {e : Expr} {es : List Expr} {ta : TE} {t : TA} {E : L2.St → XK}
def callB (K : PySem.W.Frag) (C : Addr) : Bool := match PySem.W.findIn K (.ref C) "__call__" with
  | some (some (.ref f)) => PySem.W.fnIn K f
  | _ => false
theorem callB_ok {K : PySem.W.Frag} {C f : Addr} (h : callB K C = true) (e : PySem.W.findIn K (.ref C) "__call__" = some (some (.ref f))) : PySem.W.fnIn K f = true := by
  unfold callB at h
  rw [e] at h
  exact h
theorem pAt {X : Cx} {CX : CXT} {E : XK} (h : Passes CX X E) (σ : L2.St) : PassesAt CX X σ E := fun pins H s e s' I c => h pins σ H s e s' I c
def tCallO (C : Addr) (sp : Sp) (E : L2.St → XK) (ta : TE) (t : TA) : TE := fun σ H Q => ta σ H fun x H1 => ∃ a, x = .ref a ∧ t σ H1 fun vs H2 => ∃ dx fs, H2 a = some (.ins C dx fs) ∧ sp (x :: vs) H2 Q (E σ)
theorem pe_callO (M : CalM X.prog X.w X.K X.mg X.base CX k C "__call__" ps sp) (hc : callB X.K C = true) (hr : Room k X.A) (hx : ∀ σ, PassesAt CX X σ (E σ)) (hn : PE X (.Name x p) ta) (ha : PA X (e :: es) t) (hs : (e :: es).all nostar = true := by rfl) :
    PE X (.Call (.Name x p) (e :: es) [] pos) (tCallO C sp E ta t) := by
  obtain ⟨f, fd, m, b, F⟩ := M.ex
  simp only [List.all_cons, Bool.and_eq_true] at hs
  refine ⟨fun pins s σ H Q I h => ?_⟩
  refine wpAny_Call_Name_kw (thn (hn.run pins s σ H _ I h) fun u s1 ⟨v, H1, I1, rv, a, ev, q⟩ => ?_)
  subst ev
  obtain rfl : u = Value.ref a := rv
  have pl : (backTo pos (starEach (e :: es) X.env)).any (·.1) = false := by
    rw [star_ok hs.1]
    show (false || (backTo pos (starEach es X.env)).any (·.1)) = false
    rw [back_ok hs.2]
    rfl
  refine own_with (C := C) pl ?_
  have hA := ha.run pos pins s1 σ H1 _ I1 q
  rw [star_ok hs.1] at hA ⊢
  refine evalArgs_plain (thn hA fun us s2 ⟨vs, H2, I2, r, dx, fs, h2, q2⟩ => ?_)
  obtain ⟨ox, od, J, hd⟩ : ∃ ox od, PySem.W.InstAt s2.heap a ox C od ∧ ox.data = .plain := by
    obtain ⟨mA, J, _⟩ := ins_get I2.hok h2
    obtain ⟨od, J, _⟩ := J.look
    exact ⟨_, od, J, rfl⟩
  refine ⟨⟨ox, od, J, hd⟩, ?_⟩
  have e0 := I2.env0
  have rr : Vals (V.ref a :: vs) (Value.ref a :: us) := .cons rfl r
  have hl : (Value.ref a :: us).length = ps.length := by rw [← rr.length]; exact F.len _ _ _ _ q2
  have bb := b s2 (Value.ref a :: us) I2.kIn (by rw [List.append_nil]; exact hl)
  rw [List.append_nil] at bb
  refine wpAny_call (PySem.W.kco_code I2.kIn J hd m.at_ m.fn (callB_ok hc m.at_) (codeAny_mono (F.run X.A X.stack s2 H2 ⟨.ref a :: us, []⟩ (.ref a :: us) (V.ref a :: vs) Q (E σ) hr e0 bb rr q2) fun rs s' hq => ?_))
  cases rs with
  | error ex => exact hx σ pins H2 s2 ex s' I2 hq
  | ok fl =>
    cases fl with
    | ret u => exact I2.after hq
    | next => exact False.elim hq
    | brk => exact False.elim hq
    | cont => exact False.elim hq
theorem run_at {A : Around} {f : Addr} {fd : FuncData} {pins : List (Addr × Obj)} {σ : L2.St} {H : Hp} {s : Shared} {Q : VK} {us : List Value} {vs : List V} (hA : A.frames = X.A.frames) (F : FnOk X.prog X.w X.K X.mg X.base CX k f fd ps sp) (hr : Room k A) (hb : Binds X.K fd ps []) (hx : PassesAt CX X σ (E σ))
    (I : Inv X pins σ H s) (r : Vals vs us) (h : sp vs H Q (E σ)) : wpAny (model X.prog X.w) A (call (.ref f) us) (EP X pins σ Q) X.xe s := by
  have e := I.env0
  have e0 : Env0 X.prog X.w X.K X.mg X.base A X.stack s H := ⟨by rw [hA]; exact e.frames, e.mod, e.bs, e.bsz, e.funs, e.frf, e.hok, e.bare⟩
  have hl : us.length = ps.length := r.length ▸ F.len _ _ _ _ h
  have bb := hb s us I.kIn (by rw [List.append_nil]; exact hl)
  rw [List.append_nil] at bb
  refine wpAny_call (codeAny_mono (F.run A X.stack s H ⟨us, []⟩ us vs Q (E σ) hr e0 bb r h) fun rs s' hq => ?_)
  cases rs with
  | error ex => exact hx pins H s ex s' I hq
  | ok fl =>
    cases fl with
    | ret u => exact I.after hq
    | next => exact False.elim hq
    | brk => exact False.elim hq
    | cont => exact False.elim hq
/-- o op p in a try's body -/
def tBinT (C : Addr) (sp : Sp) (E : L2.St → XK) (ta tb : TE) : TE := fun σ H Q => ta σ H fun x H1 => tb σ H1 fun y H2 => ∃ a b dx dy fs gs, x = .ref a ∧ y = .ref b ∧ H2 a = some (.ins C dx fs) ∧ H2 b = some (.ins C dy gs) ∧ sp [.ref a, .ref b] H2 (fun v H' => ∃ r, v = .ref r ∧ Q (.ref r) H') (E σ)
theorem pe_binT {op : Operator} {mn : Str} {a b : Expr} {tb : TE} (hop : PySem.dunder op.info.2 = mn) (M : CalM X.prog X.w X.K X.mg X.base CX k C mn ps sp) (hc : PySem.W.selfFirst X.K C = true) (hr : Room k X.A) (hx : ∀ σ, PassesAt CX X σ (E σ)) (ha : PE X a ta) (hb : PE X b tb) :
    PE X (.BinOp a op b pos) (tBinT C sp E ta tb) := by
  refine ⟨fun pins s σ H Q I h => wpAny_BinOp (binT ha hb I h fun v u s2 x y H2 I2 rx ry hq => ?_)⟩
  obtain ⟨f, fd, m, b, F⟩ := M.ex
  obtain ⟨a, c, dx, dy, fs, gs, rfl, rfl, h1, h2, hsp⟩ := hq
  cases rx
  cases ry
  subst hop
  obtain ⟨ox, od, J⟩ := inst_at I2 h1
  obtain ⟨oy, od', J'⟩ := inst_at I2 h2
  obtain ⟨mm, hF⟩ := I2.fr
  refine PySem.W.binop_K hF I2.ok.mod.kin J J'.type hc m.at_ m.fn (wpAny_mono (run_at (vs := [.ref a, .ref c]) (us := [.ref a, .ref c]) rfl F hr b (hx σ) I2 (.cons rfl (.cons rfl .nil)) hsp) (fun v s' hv => ?_) fun _ _ z => z)
  obtain ⟨z, H', I', rz, r, rfl, q⟩ := hv
  cases rz
  exact ⟨.ref r, H', I', rfl, q⟩
end
end Fx
/-! text += text, range with a step in a comprehension, a reading that depends on the slots -/
namespace Fx
open PySem PySem.Spec PyProof.Rows L2
section
variable {X : Cx} {pos : Pos}
def ipZ : TIp := fun x y H Q => ∃ a b, x = .str a ∧ y = .str b ∧ a.length + b.length ≤ sizeLine ∧ Q (.str (a ++ b)) H
theorem ip_addZ : PIp X .Add ipZ := fun pins s σ H x y v u Q I rx ry h => iop_add_str pins s σ H x y v u Q I rx ry h
/-- a reading that leans on the slots -/
def tDep (T : L2.St → TE) : TE := fun σ H Q => T σ σ H Q
theorem pe_dep {e : Expr} {T : L2.St → TE} (h : ∀ σ, PE X e (T σ)) : PE X e (tDep T) := ⟨fun pins s σ H Q I q => (h σ).run pins s σ H Q I q⟩
theorem cx_w {CX : CXT} {P : Program} {w : World} {K : PySem.W.Frag} {mg : Str → Option Value} {base : Heap} {N : List Str} {qual : Str} {scope : Scope} {f : Addr} {cd : Value} {A : Around} {outer : List Env} {s : Shared} {H : Hp} {E : XK} :
    (cxOf CX P w K mg base N qual scope f cd A outer s H E).w = w := rfl
end
theorem lc_rangeC {lo c : Int} {n : Nat} {g : TG} {tt : TT} {te : TE} {vs : List Nat} {σ : L2.St} {H1 : Hp} {D : Addr} {Qd : Hp → Prop} (Pv : Nat → Hp → Prop) (h0 : Pv 0 (upd H1 D (.lst [])))
    (hs : ∀ i H, i < n → Pv i H → g (.int (lo + (i : Nat) * c)) (wipe σ vs) H fun σ2 H2 => wipe σ2 vs = wipe σ vs ∧ tt σ2 H2 fun b H3 => if b = true then te σ2 H3 fun y H4 => ∃ acc, H4 D = some (.lst acc) ∧ acc.length < sizeLine ∧ Pv (i + 1) (upd H4 D (.lst (acc ++ [y]))) else Pv (i + 1) H3)
    (hd : ∀ H, Pv n H → Qd H) : ∃ W : Nat → Nat → Hp → Prop, (∃ m, W 0 m (upd H1 D (.lst []))) ∧ ∀ i m H, W i m H →
      ((Itc lo c n).stop i H ∧ Qd H) ∨ ((Itc lo c n).go i H ∧ ∃ Nx : Hp → Prop, (∀ H', Nx H' → ∃ m', m' < m ∧ W (i + 1) m' H') ∧ ∀ x H', (Itc lo c n).yld i H x H' → g x (wipe σ vs) H' fun σ2 H2 => wipe σ2 vs = wipe σ vs ∧ tt σ2 H2 fun b H3 =>
        if b = true then te σ2 H3 fun y H4 => ∃ acc, H4 D = some (.lst acc) ∧ acc.length < sizeLine ∧ Nx (upd H4 D (.lst (acc ++ [y]))) else Nx H3) := by
  refine ⟨fun i m H => m = n - i ∧ i ≤ n ∧ Pv i H, ⟨n, by omega, Nat.zero_le _, h0⟩, ?_⟩
  rintro i m H ⟨rfl, hi, p⟩
  rcases Nat.lt_or_ge i n with hlt | hge
  · refine .inr ⟨hlt, Pv (i + 1), fun H' p' => ⟨n - (i + 1), by omega, rfl, hlt, p'⟩, ?_⟩
    rintro x H' ⟨rfl, rfl⟩
    exact hs i _ hlt p
  · obtain rfl : i = n := by omega
    exact .inl ⟨Nat.le_refl _, hd H p⟩
theorem rgC_up {a b c : Int} {n : Nat} (hc : 0 < c) (hc2 : c < 1000000) (ha : -(2 ^ 60) ≤ a) (ha' : a ≤ 2 ^ 60) (hb : -(2 ^ 60) ≤ b) (hb' : b ≤ 2 ^ 60) (hn : (n : Int) = if a < b then (b - a - 1) / c + 1 else 0) : RgC a b c n := by
  have hz : Builtin.Range.rangeSize a b c = if a < b then (b - a - 1) / c + 1 else 0 := by
    unfold Builtin.Range.rangeSize
    rw [if_pos hc]
  refine ⟨by omega, by omega, ?_, by rw [hz, hn]⟩
  unfold Builtin.Range.small
  rw [hz]
  by_cases h : a < b
  · have h1 : (b - a - 1) / c ≤ b - a - 1 := Int.ediv_le_self _ (by omega)
    have h2 : 0 ≤ (b - a - 1) / c := Int.ediv_nonneg (by omega) (by omega)
    simp only [Builtin.Range.rangeFitsLong, Bool.and_eq_true, Bool.or_eq_true, decide_eq_true_eq, beq_iff_eq, if_pos h, if_pos hc]
    omega
  · simp only [Builtin.Range.rangeFitsLong, Bool.and_eq_true, Bool.or_eq_true, decide_eq_true_eq, beq_iff_eq, if_neg h, if_pos hc]
    omega
end Fx
/-! A def that is called in an except suite with plain arguments -/
namespace Fx
open PySem PySem.Spec PySem.Calls PyProof.Rows L2
structure FnQ (P : Program) (w : World) (K : PySem.W.Frag) (mg : Str → Option Value) (base : Heap) (k : Nat) (f : Addr) (fd : FuncData) (ps : List Str) (sp : Sp) : Prop where
  len : ∀ vs H Q E, sp vs H Q E → vs.length = ps.length
  run : ∀ (A : Around) (outer : List Env) (s : Shared) (H : Hp) (args : Args) (us : List Value) (vs : List V) (Q : VK) (p : Addr × Obj), L2H.RoomH k A → L2H.PinOk outer H s p → Env0 P w K mg base A outer s H → BindsTo s fd args (ps.zip us) → Vals vs us → sp vs H Q E0 →
    codeAny (model P w) A (.call (.ref f) args) (CR CX0 outer P w H s Q E0) s
theorem fn_ofQ {P : Program} {w : World} {K : PySem.W.Frag} {mg : Str → Option Value} {base : Heap} {k : Nat} {f : Addr} {name qual : Str} {params : Arguments} {body : List Stmt} {scope : Scope} {dV kV doc pm cdv ct oc : Value} {an od : Option Addr} {osl : Array (Option Value)} {N ps : List Str} {sp : Sp}
    (lk : K.lookup f = some ⟨oc, od, .func (PySem.W.fnOf name qual params body scope dV kV doc pm an cdv ct), osl⟩) (hcd : PySem.W.codeIn K cdv qual = true) (S : FnScope N ps scope) (len : ∀ vs H Q E, sp vs H Q E → vs.length = ps.length)
    (hbody : ∀ (A : Around) (outer : List Env) (s : Shared) (H : Hp) (vs : List V) (Q : VK) (p : Addr × Obj), L2H.RoomH k (A.deeper (envOfC qual scope s.heap.objs.size f cdv)) → sp vs H Q E0 → ∃ t, PSs (cxE P w K mg base N qual scope f cdv A outer s H p) body t ∧ t { nx := fun _ H' => Q .non H', rt := Q } (L2.start N vs) H) :
    FnQ P w K mg base (k + 1) f (PySem.W.fnOf name qual params body scope dV kV doc pm an cdv ct) ps sp := by
  refine ⟨len, fun A outer s H args us vs Q p hr hpin e0 hb rv hsp => ?_⟩
  have hl := len _ _ _ _ hsp
  have KX : K.In s.heap := e0.mod.kin.keeps fun b o e => (e0.bs b o e).1
  have lim : s.heap.NoLimit := e0.mod.nolimit.keeps fun b o e => (e0.bs b o e).1
  have hkind : ∀ y ∈ ps.zip us, scope.names.lookup y.1 = some .local ∨ (scope.names.lookup y.1 = some .cell ∧ ((cellsFrom (s.heap.objs.size + 1) scope.names []).lookup y.1).isSome = true) := by
    rintro ⟨n, v⟩ hy
    rcases S.par n (List.of_mem_zip hy).1 with q | q
    · exact .inl q
    · exact .inr ⟨q, PySem.W.cellsFrom_some _ _ _ (.inl q)⟩
  refine codeAny_call_function hr.depth (KX _ _ lk) rfl S.co S.gen rfl (PySem.W.codeRec_of KX hcd) (hb _ _ _ _ (wpAny_newFunctionEnv_cells S.kind hkind fun env he s1 y => ?_))
  subst he
  refine ⟨lim.keeps y.toInCall.keep, codeAny_func ?_⟩
  obtain ⟨t, ht, hq⟩ := hbody A outer s H vs Q p (hr.deeper _) hsp
  have I : Inv (L2H.cxH CX0 P w K mg base N qual scope f cdv A outer s H E0 p) [] (L2.start N vs) H s1 := L2H.inv_startH S hpin e0 hl rv y
  refine wpAny_mono (ht.nox.run [] s1 (L2.start N vs) H _ I hq) (fun fl s' hs => ?_) fun e s' hs => hs
  have fin : ∀ {σ' : L2.St} {H' : Hp} {v : V} {u : Value}, Inv (L2H.cxH CX0 P w K mg base N qual scope f cdv A outer s H E0 p) [] σ' H' s' → RelV v u → Q v H' → CE outer P w H s Q u s' := fun {σ' H' v u} J rv q => ⟨v, H', J.os, J.bare, J.base, J.hok, rv, q⟩
  cases fl with
  | ret u =>
    obtain ⟨v, σ', H', J, rv, q⟩ := hs
    exact fin J rv q
  | next =>
    obtain ⟨σ', H', J, q⟩ := hs
    exact fin (v := V.non) (u := Value.none) J rfl q
  | brk =>
    obtain ⟨_, _, _, q⟩ := hs
    exact False.elim q
  | cont =>
    obtain ⟨_, _, _, q⟩ := hs
    exact False.elim q
structure CalQ (P : Program) (w : World) (K : PySem.W.Frag) (mg : Str → Option Value) (base : Heap) (k : Nat) (x : Str) (ps : List Str) (sp : Sp) : Prop where
  ex : ∃ f fd, mg x = some (.ref f) ∧ PySem.W.keepIn K (.ref f) = true ∧ Binds K fd ps [] ∧ FnQ P w K mg base k f fd ps sp
theorem Src.calQ {P : Program} {w : World} {K : PySem.W.Frag} {mg : Str → Option Value} {base : Heap} {x : Str} {st : Stmt} {N ps : List Str} {k : Nat} {sp : Sp} (S : Src K mg x st) (sc : FnScope N ps (defScope st)) (bn : BindP x st ps) (len : ∀ vs H Q E, sp vs H Q E → vs.length = ps.length)
    (hbody : ∀ (f : Addr) (cdv : Value) (A : Around) (outer : List Env) (s : Shared) (H : Hp) (vs : List V) (Q : VK) (p : Addr × Obj), L2H.RoomH k (A.deeper (envOfC x (defScope st) s.heap.objs.size f cdv)) → sp vs H Q E0 →
      ∃ t, PSs (cxE P w K mg base N x (defScope st) f cdv A outer s H p) (defBody st) t ∧ t { nx := fun _ H' => Q .non H', rt := Q } (L2.start N vs) H) : CalQ P w K mg base (k + 1) x ps sp := by
  obtain ⟨f, fd, g, F⟩ := S
  have b := F.bindsN bn
  have kp := F.kp
  obtain ⟨oc, od, dV, kV, doc, pm, an, cdv, ct, osl, rfl, lk, hcd, _, _⟩ := F.ex
  exact ⟨f, _, g, kp, b, fn_ofQ lk hcd sc len fun A outer s H vs Q p hr hsp => hbody f cdv A outer s H vs Q p hr hsp⟩
section
variable {X : Cx} {k : Nat} {x : Str} {ps : List Str} {sp : Sp} {p pos : Pos} {e : Expr} {es : List Expr} {t : TA} {a : Addr} {oe : Obj} {pn : List (Addr × Obj)}
/-- f(e, ..) in the suite -/
theorem pe_calQ (C : CalQ X.prog X.w X.K X.mg X.base k x ps sp) (hr : Room k X.A) (ha : PA (X.suite a ((a, oe) :: pn)) (e :: es) t) (hg : Gl (X.suite a ((a, oe) :: pn)) x := by rfl) (hdb : (x == ("__debug__" : Str)) = false := by decide)
    (hs : (e :: es).all nostar = true := by rfl) : PE (X.suite a ((a, oe) :: pn)) (.Call (.Name x p) (e :: es) [] pos) (tCall sp [] E0 t) := by
  obtain ⟨f, fd, g, kp, b, F⟩ := C.ex
  simp only [List.all_cons, Bool.and_eq_true] at hs
  refine ⟨fun pins s σ H Q I h => wpAny_Call_Name_kw (ld_glob I hg g ?_ hdb)⟩
  refine PySem.W.callWith_K (h₀ := X.base) I.ok.mod.kin kp (thn (ha.run pos pins s σ H _ I h) fun us s1 ⟨vs, H1, I1, r, q⟩ => ⟨I1.kIn, ?_⟩) (star_ok hs.1) (back_ok hs.2)
  have q : sp (vs ++ []) H1 Q E0 := q
  rw [List.append_nil] at q
  have P1 := I1.pin (a, oe) (List.mem_append_left _ List.mem_cons_self)
  have hpin : L2H.PinOk X.stack H1 s1 (a, oe) := ⟨P1.1, P1.2.1, fun hm => (List.mem_cons.mp (I1.stkSub a hm)).elim P1.2.2.1 P1.2.2.2.1, P1.2.2.2.2⟩
  have hl : us.length = ps.length := by rw [← r.length]; exact F.len _ _ _ _ q
  have bb := b s1 us I1.kIn (by rw [List.append_nil]; exact hl)
  rw [List.append_nil] at bb
  refine wpAny_call (codeAny_mono (F.run (X.suite a ((a, oe) :: pn)).A X.stack s1 H1 ⟨us, []⟩ us vs Q (a, oe) ⟨hr.dp, hr.un⟩ hpin I1.env0 bb r q) fun rs s' hq => ?_)
  cases rs with
  | error e => exact False.elim hq
  | ok fl =>
    cases fl with
    | ret u => exact I1.after hq
    | next => exact False.elim hq
    | brk => exact False.elim hq
    | cont => exact False.elim hq
end
end Fx
/-! Walking an object of an own class whose __iter__ gives a tuple's iterator; a def with one default; a statement that is not reached -/
namespace Fx
open PySem PySem.Spec PyProof.Rows L2
/-- a def that keeps its promise, entered where the heap has at least n objects -/
structure FnOkN (P : Program) (w : World) (K : PySem.W.Frag) (mg : Str → Option Value) (base : Heap) (k n : Nat) (f : Addr) (fd : FuncData) (ps : List Str) (sp : Sp) : Prop where
  len : ∀ vs H Q E, sp vs H Q E → vs.length = ps.length
  run : ∀ (A : Around) (outer : List Env) (s : Shared) (H : Hp) (args : Args) (us : List Value) (vs : List V) (Q : VK) (E : XK), n ≤ s.heap.objs.size → Room k A → Env0 P w K mg base A outer s H → BindsTo s fd args (ps.zip us) → Vals vs us → sp vs H Q E →
    codeAny (model P w) A (.call (.ref f) args) (CR CX0 outer P w H s Q E) s
theorem fn_ofN {P : Program} {w : World} {K : PySem.W.Frag} {mg : Str → Option Value} {base : Heap} {k n : Nat} {f : Addr} {name qual : Str} {params : Arguments} {body : List Stmt} {scope : Scope} {dV kV doc pm cdv ct oc : Value} {an od : Option Addr}
    {osl : Array (Option Value)} {N ps : List Str} {sp : Sp} (lk : K.lookup f = some ⟨oc, od, .func (PySem.W.fnOf name qual params body scope dV kV doc pm an cdv ct), osl⟩) (hcd : PySem.W.codeIn K cdv qual = true) (S : FnScope N ps scope)
    (len : ∀ vs H Q E, sp vs H Q E → vs.length = ps.length)
    (hbody : ∀ (A : Around) (outer : List Env) (s : Shared) (H : Hp) (vs : List V) (Q : VK) (E : XK), n ≤ s.heap.objs.size → Room k (A.deeper (envOfC qual scope s.heap.objs.size f cdv)) → sp vs H Q E →
      ∃ t, PSs (cxOf CX0 P w K mg base N qual scope f cdv A outer s H E) body t ∧ t { nx := fun _ H' => Q .non H', rt := Q } (start N vs) H) :
    FnOkN P w K mg base (k + 1) n f (PySem.W.fnOf name qual params body scope dV kV doc pm an cdv ct) ps sp := by
  refine ⟨len, fun A outer s H args us vs Q E hn hr e0 hb r hsp => ?_⟩
  have hl := len _ _ _ _ hsp
  have KX : K.In s.heap := e0.mod.kin.keeps fun b o e => (e0.bs b o e).1
  have lim : s.heap.NoLimit := e0.mod.nolimit.keeps fun b o e => (e0.bs b o e).1
  have hkind : ∀ y ∈ ps.zip us, scope.names.lookup y.1 = some .local ∨ (scope.names.lookup y.1 = some .cell ∧ ((cellsFrom (s.heap.objs.size + 1) scope.names []).lookup y.1).isSome = true) := fun ⟨n, v⟩ hy => by
    rcases S.par n (List.of_mem_zip hy).1 with q | q
    · exact .inl q
    · exact .inr ⟨q, PySem.W.cellsFrom_some _ _ _ (.inl q)⟩
  refine codeAny_call_function hr.depth (KX _ _ lk) rfl S.co S.gen rfl (PySem.W.codeRec_of KX hcd) (hb _ _ _ _ ?_)
  refine wpAny_newFunctionEnv_cells S.kind hkind fun env he s1 x => ?_
  subst he
  refine ⟨lim.keeps x.toInCall.keep, codeAny_func ?_⟩
  obtain ⟨t, ht, hq⟩ := hbody A outer s H vs Q E hn (hr.deeper _) hsp
  have I : Inv (cxOf CX0 P w K mg base N qual scope f cdv A outer s H E) [] (start N vs) H s1 := inv_start S hr.hd e0 hl r x
  refine wpAny_mono (ht.run [] s1 (start N vs) H _ I hq) (fun fl s' hs => ?_) fun e s' hs => hs
  have fin : ∀ {σ' : L2.St} {H' : Hp} {v : V} {u : Value}, Inv (cxOf CX0 P w K mg base N qual scope f cdv A outer s H E) [] σ' H' s' → RelV v u → Q v H' → CE outer P w H s Q u s' :=
    fun {σ' H' v u} J rv q => ⟨v, H', J.os, J.bare, J.base, J.hok, rv, q⟩
  cases fl with
  | ret u =>
    obtain ⟨v, σ', H', J, rv, q⟩ := hs
    exact fin J rv q
  | next =>
    obtain ⟨σ', H', J, q⟩ := hs
    exact fin (v := V.non) (u := Value.none) J rfl q
  | brk =>
    obtain ⟨_, _, _, q⟩ := hs
    exact False.elim q
  | cont =>
    obtain ⟨_, _, _, q⟩ := hs
    exact False.elim q
/-- a method whose promise may speak of the objects that were there -/
structure CalMN (P : Program) (w : World) (K : PySem.W.Frag) (mg : Str → Option Value) (base : Heap) (k : Nat) (C : Addr) (m : Str) (ps : List Str) (spn : Nat → Sp) : Prop where
  ex : ∃ f fd, Meth K C m f ∧ Binds K fd ps [] ∧ ∀ n, FnOkN P w K mg base k n f fd ps (spn n)
section
variable {P : Program} {w : World} {K : PySem.W.Frag} {mg : Str → Option Value} {base : Heap} {k n : Nat} {ps N : List Str} {sp : Sp} {x qual : Str} {st : Stmt} {f : Addr} {fd : FuncData}
theorem ok0N (F : FunD K x qual (defArgs st) (defBody st) (defScope st) [] [] f fd) (sc : FnScope N ps (defScope st)) (len : ∀ vs H Q E, sp vs H Q E → vs.length = ps.length)
    (hbody : ∀ (f : Addr) (cdv : Value) (A : Around) (outer : List Env) (s : Shared) (H : Hp) (vs : List V) (Q : VK) (E : XK), n ≤ s.heap.objs.size → Room k (A.deeper (envOfC qual (defScope st) s.heap.objs.size f cdv)) → sp vs H Q E →
      ∃ t, PSs (cxOf CX0 P w K mg base N qual (defScope st) f cdv A outer s H E).nox (defBody st) t ∧ t { nx := fun _ H' => Q .non H', rt := Q } (L2.start N vs) H) : FnOkN P w K mg base (k + 1) n f fd ps sp := by
  obtain ⟨oc, od, dV, kV, doc, pm, an, cdv, ct, osl, rfl, lk, hcd, _, _⟩ := F.ex
  refine fn_ofN lk hcd sc len fun A outer s H vs Q E hn hr hsp => ?_
  obtain ⟨t, h, q⟩ := hbody f cdv A outer s H vs Q E hn hr hsp
  exact ⟨t, h.nox, q⟩
end
section
variable {X : Cx}
/-- iter(t), younger than the def's entry -/
def rIterTN (n : Nat) : List V → Hp → VK → Prop := fun xs H Q => ∃ t, xs = [.ref t] ∧ ∃ zs, FT H t zs ∧ ∀ it, H it = none → n ≤ it → Q (.ref it) (upd H it (TItO t it 0))
theorem iter_TN : CallR X (.builtin "iter") (rIterTN X.s_0.heap.objs.size) := by
  intro pins s σ H xs us Q I r h
  obtain ⟨t, rfl, zs, hq, q⟩ := h
  obtain ⟨u, rfl, ru⟩ := r.one
  cases ru
  obtain ⟨its, rv, pl, hz⟩ := I.tuple (xs := zs) hq.sq
  refine call_iterT0 pl ?_
  exact ⟨.ref s.heap.objs.size, _, I.laid (t' := s.toks) (fun b u e => Heap.get?_push_of_some _ e) (Nat.le_refl _) (titO_ok ⟨_, Heap.get?_push_size _ rfl, rfl, rfl⟩), rfl, q _ (I.hok.fresh (Nat.le_refl _)) I.sz⟩
/-- for .. in o, o of an own class -/
def iOwn (K : PySem.W.Frag) (C : Addr) (spn : Nat → Sp) (n : Nat) (te : TE) : TI := fun σ H R => te σ H fun x H1 => ∃ a dx fs, x = .ref a ∧ H1 a = some (.ins C dx fs) ∧
  spn n [.ref a] H1 (fun v H2 => ∃ it p, v = .ref it ∧ n ≤ it ∧ H2 it = some (TItO p it 0) ∧ R (Itt K p) (ItX.dropH H2 it)) E0
theorem pi_O {tg e : Expr} {te : TE} {k : Nat} {C : Addr} {ps : List Str} {spn : Nat → Sp} (M : CalMN X.prog X.w X.K X.mg X.base k C "__iter__" ps spn) (hr : Room k X.A) (he : PE X e te) : PI X tg e (iOwn X.K C spn X.s_0.heap.objs.size te) := by
  refine ⟨fun pins s σ H R I h => ?_⟩
  refine thn (he.run pins s σ H _ I h) fun v s1 ⟨x, H1, I1, r1, a, dx, fs, ex, ha, hsp⟩ => ?_
  subst ex
  cases r1
  obtain ⟨f, fd, m, b, F⟩ := M.ex
  obtain ⟨ox, od, J⟩ := inst_at I1 ha
  obtain ⟨mm, hF⟩ := I1.fr
  refine PySem.W.owit_iter hF I1.ok.mod.kin J m.at_ m.fn ?_
  have hb := b s1 [.ref a] I1.kIn (by simpa using (F _).len _ _ _ _ hsp)
  refine wpAny_call (codeAny_mono ((F X.s_0.heap.objs.size).run X.A X.stack s1 H1 ⟨[.ref a], []⟩ [.ref a] [.ref a] _ E0 I1.sz hr I1.env0 (by simpa using hb) (.cons rfl .nil) hsp) fun r s' hq => ?_)
  cases r with
  | error e => exact False.elim hq
  | ok fl =>
    cases fl with
    | next => exact False.elim hq
    | brk => exact False.elim hq
    | cont => exact False.elim hq
    | ret u =>
      obtain ⟨z, H2, I2, rz, it, p, ez, hn, hit, q⟩ := I1.after hq
      subst ez
      cases rz
      have hit0 : s'.heap.IsTupleIter it p 0 := (I2.hok it _ hit).1
      have hit' := hit
      unfold TItO at hit'
      unfold PySem.W.OwitIt
      refine wpAny_specialOf (name := Str.ofString "__next__") hit0.typeIs PySem.F.slot_tuple_iterator_next.lookup ?_
      refine ⟨it, [it], _, _, ItX.dropH H2 it, rfl, ItX.inv_drop I2 hit', turn_tuple p it, hit0, fun b hb => ?_, q⟩
      have e : b = it := by simpa using hb
      rw [e]
      exact ItX.inv_fp I2 hit hn
end
/-! ### a statement that is not reached -/
def tDead : TS := fun _ _ _ => False
theorem ps_dead {X : Cx} {st : Stmt} : PS X st tDead := ⟨fun _ _ _ _ _ _ h => h.elim⟩
/-! ### a def with one default -/
def SrcD (K : PySem.W.Frag) (mg : Str → Option Value) (x : Str) (st : Stmt) (dv : V) : Prop := ∃ f fd, mg x = some (.ref f) ∧ FunD K x x (defArgs st) (defBody st) (defScope st) [dv] [] f fd
structure CalD (P : Program) (w : World) (K : PySem.W.Frag) (mg : Str → Option Value) (base : Heap) (CX : CXT) (k : Nat) (x : Str) (ps : List Str) (dv : V) (sp : Sp) : Prop where
  ex : ∃ f fd ds, mg x = some (.ref f) ∧ PySem.W.keepIn K (.ref f) = true ∧ Binds K fd ps [] ∧ Vals [dv] ds ∧ Binds K fd ps ds ∧ FnOk P w K mg base CX k f fd ps sp
section
variable {P : Program} {w : World} {K : PySem.W.Frag} {mg : Str → Option Value} {base : Heap} {CX : CXT} {x : Str} {st : Stmt} {N ps : List Str} {k : Nat} {dv : V} {sp : Sp}
theorem CalD.full (M : CalD P w K mg base CX k x ps dv sp) : Cal P w K mg base CX k x ps sp := by
  obtain ⟨f, fd, ds, g, kp, b, _, _, F⟩ := M.ex
  exact ⟨f, fd, g, kp, b, F⟩
theorem SrcD.of (S : SrcD K mg x st dv) (n : Nat) (hn : n + 1 = ps.length) (b1 : BindD x x st ps (n + 1) 1) (b0 : BindD x x st ps n 0) (ok : ∀ {f fd}, FunD K x x (defArgs st) (defBody st) (defScope st) [dv] [] f fd → FnOk P w K mg base CX k f fd ps sp) : CalD P w K mg base CX k x ps dv sp := by
  obtain ⟨f, fd, g, F⟩ := S
  obtain ⟨ds1, v1, B1⟩ := F.binds1 (ps := ps) (n + 1) 1 (by simp) (by simpa using hn) b1
  obtain ⟨ds0, v0, B0⟩ := F.binds1 (ps := ps) n 0 (by simp) (by simpa using hn) b0
  have e : ds1 = [] := by
    cases v1
    rfl
  subst e
  exact ⟨f, fd, ds0, g, F.kp, B1, v0, B0, ok F⟩
end
section
variable {X : Cx} {CX : CXT} {E : XK} {k : Nat} {x : Str} {ps : List Str} {dv : V} {sp : Sp} {e : Expr} {es : List Expr} {t : TA} {p pos : Pos}
/-- f(e, ..), the last one by its default -/
theorem pe_calD (C : CalD X.prog X.w X.K X.mg X.base CX k x ps dv sp) (hr : Room k X.A) (hx : Passes CX X E) (ha : PA X (e :: es) t) (hg : Gl X x := by rfl) (hdb : (x == ("__debug__" : Str)) = false := by decide)
    (hs : (e :: es).all nostar = true := by rfl) : PE X (.Call (.Name x p) (e :: es) [] pos) (tCall sp [dv] E t) := by
  obtain ⟨f, fd, ds, g, kp, _, vd, b, F⟩ := C.ex
  simp only [List.all_cons, Bool.and_eq_true] at hs
  exact pe_call F hr hg g kp b vd hx ha hdb (star_ok hs.1) (back_ok hs.2)
end
/-! ### l.count(z) of a list of texts -/
def eqz (k : Str) (v : Value) : Bool := match v with
  | .str z _ => z.cps.toList == k.cps.toList
  | _ => false
theorem eqz_gives {k : Str} {t : Tok} : ∀ {us : List Value} {ns : List Str}, StrsAre us ns → ∀ y ∈ us, MeetsSeq.EqGives y (.str k t) (eqz k y)
  | _, _, .nil => fun y hy => by cases hy
  | _, _, .cons n t' h => fun y hy => by
    rcases List.mem_cons.mp hy with e | e
    · rw [e]
      exact SeqRoads2.EqGives.str n k t' t
    · exact eqz_gives h y e
theorem cps_beq (a b : Str) : (a.cps.toList == b.cps.toList) = (a == b) := by
  by_cases e : a = b
  · subst e
    simp
  · have h2 : ¬ a.cps.toList = b.cps.toList := fun h => e (by
      cases a with
      | mk x => cases b with
        | mk y => exact congrArg PySem.Str.mk (Array.toList_inj.mp h))
    rw [beq_eq_false_iff_ne.mpr e, beq_eq_false_iff_ne.mpr h2]
theorem eqz_count {k : Str} : ∀ {us : List Value} {ns : List Str}, StrsAre us ns → us.countP (eqz k) = ns.count k
  | _, _, .nil => rfl
  | _, _, .cons n t h => by
    have ih := eqz_count (k := k) h
    rw [List.countP_cons, List.count_cons, ih]
    show _ + (if (n.cps.toList == k.cps.toList) = true then 1 else 0) = _
    rw [cps_beq]
def rCntS : V → List V → Hp → VK → Prop := fun x xs H Q => ∃ (p : Addr) (z : Str), x = .ref p ∧ xs = [.str z] ∧ ∃ l : List Str, H p = some (.lst (ms l)) ∧ Q (.int (l.count z : Nat)) H
section
variable {X : Cx}
theorem cnt_L : MtR X "list.count" rCntS := by
  intro pins s σ H x xs v us Q I rx rxs h
  obtain ⟨p, k, rfl, rfl, ns, hs, q⟩ := h
  cases rx
  obtain ⟨u, rfl, ru⟩ := rxs.one
  obtain ⟨t, rfl⟩ := ru
  obtain ⟨its, rv, ⟨⟨cls, dd, data, sl⟩, n, ho, hc, hdn, hd⟩, hlen⟩ := I.list (xs := ms ns) (.inl (.inl hs))
  simp only at hc hd
  subst hc hd
  have hi := strs_of_vals rv
  refine call_meets PySem.F.slot_list_count ⟨_, ho, rfl⟩ PySem.F.entry_list_count (PySem.F.args_list_count_2 _ _)
    (SeqAt.list_countAt p its.toArray n dd sl (.str k t) (eqz k)) ⟨ho, fun y hy => (eqz_gives hi y (by simpa using hy)).at _ _, ?_⟩
  have ec : its.toArray.toList.countP (eqz k) = ns.count k := eqz_count hi
  refine ⟨.int (ns.count k : Nat), H, I.tok _, ⟨s.toks, ?_⟩, q⟩
  show Value.int ((its.toArray.toList.countP (eqz k) : Nat) : Int) s.toks = Value.int ((ns.count k : Nat) : Int) s.toks
  rw [ec]
end
theorem putNew {H H1 : Hp} {D : Addr} {o : HO} (x : Same H H1) (hD : H D = none) : Same H (upd H1 D o) := fun a o' h => by
  rw [upd_ne (ne_of_none h hD)]
  exact x a o' h
/-! ### list comprehensions over what stays: item i gives F i, one or none -/
def LcP (H1 : Hp) (D : Addr) (F : Nat → List V) (i : Nat) (H : Hp) : Prop := Same H1 H ∧ H D = some (.lst ((List.range i).map F).flatten)
section
variable {H1 H H4 : Hp} {D : Addr} {F : Nat → List V} {i : Nat} {y : V}
theorem flat_len1 (hF : ∀ i, (F i).length ≤ 1) : ∀ i, ((List.range i).map F).flatten.length ≤ i
  | 0 => Nat.le_refl _
  | i + 1 => by
    rw [List.range_succ, List.map_append, List.flatten_append, List.length_append]
    have h1 := flat_len1 hF i
    have h2 := hF i
    have h3 : (List.map F [i]).flatten.length = (F i).length := by
      rw [List.map_cons, List.map_nil, List.flatten_cons, List.flatten_nil, List.append_nil]
    rw [h3]
    omega
theorem flat_succ : ((List.range (i + 1)).map F).flatten = ((List.range i).map F).flatten ++ F i := by
  rw [List.range_succ, List.map_append, List.flatten_append]
  simp
theorem LcP.zero (nD : H1 D = none) : LcP H1 D F 0 (upd H1 D (.lst [])) := ⟨same_new nD, upd_same⟩
theorem LcP.put (h : LcP H1 D F i H) (nD : H1 D = none) (hF : ∀ i, (F i).length ≤ 1) (hi : i < 100000) (s : Same H H4) (e : F i = [y]) : ∃ acc, H4 D = some (.lst acc) ∧ acc.length < sizeLine ∧ LcP H1 D F (i + 1) (upd H4 D (.lst (acc ++ [y]))) :=
  ⟨_, s _ _ h.2, Nat.lt_of_le_of_lt (flat_len1 hF i) (Nat.lt_of_lt_of_le hi (by decide)), putNew (h.1.trans s) nD, by rw [upd_same, flat_succ, e]⟩
theorem LcP.skip (h : LcP H1 D F i H) (s : Same H H4) (e : F i = []) : LcP H1 D F (i + 1) H4 := ⟨h.1.trans s, by rw [s _ _ h.2, flat_succ, e, List.append_nil]⟩
end
section
variable {K : PySem.W.Frag} {a : Addr} {xs : List V} {g : TG} {tt : TT} {te : TE} {vs : List Nat} {σ : L2.St}
theorem lcL {H1 : Hp} {D : Addr} {Qd : Hp → Prop} (F : Nat → List V) (nD : H1 D = none) (hq : H1 a = some (.lst xs))
    (hs : ∀ i x H, xs[i]? = some x → LcP H1 D F i H → g x (wipe σ vs) H fun σ2 H2 => wipe σ2 vs = wipe σ vs ∧ tt σ2 H2 fun b H3 =>
      if b = true then te σ2 H3 fun y H4 => ∃ acc, H4 D = some (.lst acc) ∧ acc.length < sizeLine ∧ LcP H1 D F (i + 1) (upd H4 D (.lst (acc ++ [y]))) else LcP H1 D F (i + 1) H3) (hd : ∀ H, Same H1 H → H D = some (.lst ((List.range xs.length).map F).flatten) → Qd H) :
    ∃ W : Nat → Nat → Hp → Prop, (∃ m, W 0 m (upd H1 D (.lst []))) ∧ ∀ i m H, W i m H →
      ((Itl K a).stop i H ∧ Qd H) ∨ ((Itl K a).go i H ∧ ∃ Nx : Hp → Prop, (∀ H', Nx H' → ∃ m', m' < m ∧ W (i + 1) m' H') ∧ ∀ x H', (Itl K a).yld i H x H' → g x (wipe σ vs) H' fun σ2 H2 => wipe σ2 vs = wipe σ vs ∧ tt σ2 H2 fun b H3 =>
        if b = true then te σ2 H3 fun y H4 => ∃ acc, H4 D = some (.lst acc) ∧ acc.length < sizeLine ∧ Nx (upd H4 D (.lst (acc ++ [y]))) else Nx H3) :=
  lc_list (LcP H1 D F) (LcP.zero nD) (fun i H _ h => .inl (.inl (h.1 _ _ hq))) hs (fun H h => hd H h.1 h.2)
theorem lcT {H1 : Hp} {D : Addr} {Qd : Hp → Prop} (F : Nat → List V) (nD : H1 D = none) (hq : ∀ H, Same H1 H → SqT K H a xs)
    (hs : ∀ i x H, xs[i]? = some x → LcP H1 D F i H → g x (wipe σ vs) H fun σ2 H2 => wipe σ2 vs = wipe σ vs ∧ tt σ2 H2 fun b H3 =>
      if b = true then te σ2 H3 fun y H4 => ∃ acc, H4 D = some (.lst acc) ∧ acc.length < sizeLine ∧ LcP H1 D F (i + 1) (upd H4 D (.lst (acc ++ [y]))) else LcP H1 D F (i + 1) H3) (hd : ∀ H, Same H1 H → H D = some (.lst ((List.range xs.length).map F).flatten) → Qd H) :
    ∃ W : Nat → Nat → Hp → Prop, (∃ m, W 0 m (upd H1 D (.lst []))) ∧ ∀ i m H, W i m H →
      ((Itt K a).stop i H ∧ Qd H) ∨ ((Itt K a).go i H ∧ ∃ Nx : Hp → Prop, (∀ H', Nx H' → ∃ m', m' < m ∧ W (i + 1) m' H') ∧ ∀ x H', (Itt K a).yld i H x H' → g x (wipe σ vs) H' fun σ2 H2 => wipe σ2 vs = wipe σ vs ∧ tt σ2 H2 fun b H3 =>
        if b = true then te σ2 H3 fun y H4 => ∃ acc, H4 D = some (.lst acc) ∧ acc.length < sizeLine ∧ Nx (upd H4 D (.lst (acc ++ [y]))) else Nx H3) :=
  lc_tup (LcP H1 D F) (LcP.zero nD) (fun i H _ h => hq H h.1) hs (fun H h => hd H h.1 h.2)
/-- [.. for x in t], t a name of a list or a tuple -/
theorem lcQ {H : Hp} {Q : VK} {j : Nat} (F : Nat → List V) (hv : σ[j]? = some (some (.ref a))) (hq : Sq H a xs)
    (hs : ∀ D, H D = none → ∀ i x H', xs[i]? = some x → LcP H D F i H' → g x (wipe σ vs) H' fun σ2 H2 => wipe σ2 vs = wipe σ vs ∧ tt σ2 H2 fun b H3 =>
      if b = true then te σ2 H3 fun y H4 => ∃ acc, H4 D = some (.lst acc) ∧ acc.length < sizeLine ∧ LcP H D F (i + 1) (upd H4 D (.lst (acc ++ [y]))) else LcP H D F (i + 1) H3)
    (hd : ∀ D H', H D = none → Same H H' → H' D = some (.lst ((List.range xs.length).map F).flatten) → Q (.ref D) H') : tLc (iQ K (tVar j)) g tt te vs σ H Q := by
  rcases hq with hq | hq
  · exact .inl ⟨_, hv, a, rfl, ⟨_, .inl (.inl hq)⟩, fun D nD => lcL F nD hq (hs D nD) (fun H' => hd D H' nD)⟩
  · exact .inr ⟨_, hv, a, rfl, ⟨_, .inl (.inl hq)⟩, fun D nD => lcT F nD (fun H' s => .inl (.inl (s _ _ hq))) (hs D nD) (fun H' => hd D H' nD)⟩
end
/-- a loop over a list or tuple that was there before (at Hb) and stays -/
theorem forQ2 {K : PySem.W.Frag} {a : Addr} {xs : List V} {j : Nat} {g : TG} {tb : TS} {D : Ends} {σ : L2.St} {H Hb : Hp} (hv : σ[j]? = some (some (.ref a))) (hq : Sq Hb a xs) (Pv : Nat → L2.St → Hp → Prop) (h0 : Pv 0 σ H) (hS : ∀ i σ H', Pv i σ H' → Same Hb H')
    (hs : ∀ i x σ H, xs[i]? = some x → Pv i σ H → g x σ H fun σ2 H2 => tb { D with nx := Pv (i + 1), ct := Pv (i + 1), bk := D.nx } σ2 H2) (hd : ∀ σ H, Pv xs.length σ H → D.nx σ H) : tFor (iQ K (tVar j)) g tb D σ H := by
  rcases hq with hq | hq
  · exact .inl ⟨_, hv, a, rfl, ⟨_, .inl (.inl (hS _ _ _ h0 _ _ hq))⟩, for_list (K := K) (a := a) (xs := xs) Pv h0 (fun i σ H' _ p => .inl (.inl (hS i σ H' p _ _ hq))) hs hd⟩
  · exact .inr ⟨_, hv, a, rfl, ⟨_, .inl (.inl (hS _ _ _ h0 _ _ hq))⟩, for_tup (K := K) (a := a) (xs := xs) Pv h0 (fun i σ H' _ p => .inl (.inl (hS i σ H' p _ _ hq))) hs hd⟩
/-- o.m(e, ..) of a builtin, in a comprehension -/
theorem pe_bmK {X : Cx} {K : PySem.W.Frag} {T name id : String} {r : V → List V → Hp → VK → Prop} {o e : Expr} {es : List Expr} {to : TE} {t : TA} {apos cpos : Pos} (hK : X.K = K) (pa : PlainAttrs T) (slot : Slot T name id) (hty : typeOf (.builtin id) = pure (.type "method_descriptor")) (hm : MtR X id r) (ho : PE X o to) (ha : PA X (e :: es) t)
    (hbase : attributeBase o name X.env (eval o X.env) = eval o X.env := by rfl)
    (hfew : ((backTo cpos (starEach (e :: es) X.env)).all (fun x => !x.1) && (backToKw cpos (keywordEach [] X.env)).all (fun x => x.1.isSome)
      && decide ((e :: es).length + ([] : List Keyword).length + (if ([] : List Keyword).isEmpty then 0 else 1) < 30)) = true := by rfl)
    (hline : (apos.endLine == cpos.line) = true := by rfl) (hs : starEach (e :: es) X.env = (false, eval e X.env) :: starEach es X.env := by rfl) (hplain : (backTo cpos (starEach es X.env)).any (·.1) = false := by rfl) :
    PE X (.Call (.Attribute o name apos) (e :: es) [] cpos) (tBM K T r to t) := by
  subst hK
  exact pe_bm pa slot hty hm ho ha hbase hfew hline hs hplain
/-- list(a list or a tuple) -/
def rLstQ : List V → Hp → VK → Prop := fun vs H Q => ∃ p ys, vs = [.ref p] ∧ Sq H p ys ∧ ∀ l, H l = none → Q (.ref l) (upd H l (.lst ys))
theorem list_Q {X : Cx} : CallR X (.type "list") rLstQ := CallR.imp call_list_of fun xs H Q ⟨p, ys, e, h, q⟩ => ⟨p, ys, e, h.elim (fun h => .inl (.inl (.inl h))) (fun h => .inr (.inl (.inl h))), q⟩
end Fx
/-! Methods with one default, called by position, by name, without it; list(range(..)) -/
namespace Fx
open PySem PySem.Spec PyProof.Rows L2
abbrev BindK (x q : Str) (st : Stmt) (ps : List Str) (kw : Str) (n : Nat) : Prop := ∀ (T : Addr) (kV doc pm : Value) (an : Option Addr) (cdv ct : Value) (us its : List Value) (v : Value), us.length = n → its.length = 1 →
  ∃ k, bindArgs (PySem.W.fnOf x q (defArgs st) (defBody st) (defScope st) (.ref T) kV doc pm an cdv ct) ⟨us, [(kw, v)]⟩ = seqItems? (.ref T) >>= k ∧ k (some its.toArray) = pure (ps.zip (us ++ [v]))
def KwLast (K : PySem.W.Frag) (fd : FuncData) (ps : List Str) (kw : Str) : Prop := ∀ (s : Shared) (us : List Value) (v : Value), K.In s.heap → (us ++ [v]).length = ps.length → BindsTo s fd ⟨us, [(kw, v)]⟩ (ps.zip (us ++ [v]))
structure CalMD (P : Program) (w : World) (K : PySem.W.Frag) (mg : Str → Option Value) (base : Heap) (CX : CXT) (k : Nat) (C : Addr) (m : Str) (ps : List Str) (dv : V) (kw : Str) (sp : Sp) : Prop where
  ex : ∃ f fd ds, Meth K C m f ∧ Binds K fd ps [] ∧ Vals [dv] ds ∧ Binds K fd ps ds ∧ KwLast K fd ps kw ∧ FnOk P w K mg base CX k f fd ps sp
section
variable {P : Program} {w : World} {K : PySem.W.Frag} {mg : Str → Option Value} {base : Heap} {CX : CXT} {k : Nat} {C : Addr} {m : Str} {ps : List Str} {dv : V} {kw : Str} {sp : Sp}
theorem kwLast_of {x q : Str} {st : Stmt} {f : Addr} {fd : FuncData} (F : FunD K x q (defArgs st) (defBody st) (defScope st) [dv] [] f fd) (n : Nat) (hn : n + 1 = ps.length) (h : BindK x q st ps kw n) : KwLast K fd ps kw := by
  obtain ⟨oc, od, dV, kV, doc, pm, an, cdv, ct, osl, rfl, lk, hcd, hD, hK⟩ := F.ex
  rcases hD with ⟨e, _⟩ | ⟨_, T, o, its, m, rfl, lT, oT, rT⟩
  · exact absurd e (by simp)
  · intro s us v X hlen
    have l1 : its.length = 1 := rT.length.symm
    have l2 : us.length = n := by
      rw [List.length_append, List.length_singleton] at hlen
      omega
    obtain ⟨k, e1, e2⟩ := h T kV doc pm an cdv ct us its v l2 l1
    refine BindsTo.of_looks fun M => ?_
    rw [e1]
    exact looks_items X lT oT (.of_pure e2)
theorem calMD_of {x q : Str} {st : Stmt} {f : Addr} {fd : FuncData} (F : FunD K x q (defArgs st) (defBody st) (defScope st) [dv] [] f fd) (M : Meth K C m f) (n : Nat) (hn : n + 1 = ps.length) (b1 : BindD x q st ps (n + 1) 1) (b0 : BindD x q st ps n 0) (bk : BindK x q st ps kw n) (ok : FnOk P w K mg base CX k f fd ps sp) : CalMD P w K mg base CX k C m ps dv kw sp := by
  obtain ⟨ds1, v1, B1⟩ := F.binds1 (ps := ps) (n + 1) 1 (by simp) (by simpa using hn) b1
  obtain ⟨ds0, v0, B0⟩ := F.binds1 (ps := ps) n 0 (by simp) (by simpa using hn) b0
  have e : ds1 = [] := by
    cases v1
    rfl
  subst e
  exact ⟨f, fd, ds0, M, B1, v0, B0, kwLast_of F n hn bk, ok⟩
theorem KwLast.to {fd : FuncData} (h : KwLast K fd ps kw) (b : Binds K fd ps []) : KBinds K fd ps [kw] (fun us ws => us ++ ws.take 1) (fun vs zs => vs ++ zs.take 1) where
  to s us ws X hl := match ws, hl with
    | [], hl => by
      have e := b s us X (by simpa using hl)
      exact e
    | w :: r, hl => h s us w X hl
  rel r rz := r.append (rz.take 1)
end
section
variable {X : Cx} {k : Nat} {f C : Addr} {fd : FuncData} {ps : List Str} {sp : Sp} {x m kw : Str} {p pos apos : Pos} {e o : Expr} {es : List Expr} {kws : List Keyword} {ta : TE} {t tk : TA} {CX : CXT} {E : XK}
/-- o.m(e, .., kw = v) -/
def tMethK (C : Addr) (m : Str) (sp : Sp) (E : XK) (ta : TE) (t tk : TA) : TE := fun σ H Q => ta σ H fun x H1 => ∃ a dx fs, x = .ref a ∧ H1 a = some (.ins C dx fs) ∧ fs.lookup m = none ∧ t σ H1 fun vs H2 => tk σ H2 fun zs H3 => ∃ z, zs = [z] ∧ sp (x :: (vs ++ [z])) H3 Q E
theorem pe_methK {pl : Sem Bool} (he : PE X o ta) (c : Cls X.K C) (hm : Meth X.K C m f) (F : FnOk X.prog X.w X.K X.mg X.base CX k f fd ps sp) (hr : Room k X.A) (hb : Binds X.K fd ps []) (hl : KwLast X.K fd ps kw) (hx : Passes CX X E) (ha : PA X (e :: es) t) (hkw : PK X kws tk)
    (hall : (backToKw pos (keywordEach kws X.env)).all (·.1.isSome) = true := by rfl) (hks : (backToKw pos (keywordEach kws X.env)).filterMap (·.1) = [kw] := by rfl)
    (hst : starEach (e :: es) X.env = (false, eval e X.env) :: starEach es X.env := by rfl) (hpl : ((backTo pos (starEach (e :: es) X.env)).any (·.1) || (backToKw pos (keywordEach kws X.env)).any (·.1.isNone)) = false := by rfl)
    (ht : eval (.Call (.Attribute o m apos) (e :: es) kws pos) X.env = (do
      let ov ← eval o X.env
      standAt apos.atName
      let (f, first) ← holding [ov] (getMethod ov m pl)
      callWith pos f first (backTo pos (starEach (e :: es) X.env)) (backToKw pos (keywordEach kws X.env))) := by rfl) :
    PE X (.Call (.Attribute o m apos) (e :: es) kws pos) (tMethK C m sp E ta t tk) := by
  refine ⟨fun pins s σ H Q I h => ?_⟩
  refine PySem.W.methodCall_KW (pl := pl) (thn (he.run pins s σ H _ I h) fun u s1 ⟨x, H1, I1, rx, a, dx, fs, ex, ea, l, q⟩ => ?_) ht
  subst ex
  obtain rfl : u = Value.ref a := rx
  refine getmeth_ok I1 ea c hm l ?_
  refine PySem.W.callWith_KW (first := [.ref a]) (h₀ := X.base) I.ok.mod.kin hm.kp hall (thn (ha.run pos pins s1 σ H1 _ I1 q) fun us s2 ⟨vs, H2, I2, r, q2⟩ => ?_) hpl hst
  refine thn (hkw.run pos pins s2 σ H2 _ I2 q2) fun ws s3 ⟨zs, H3, I3, rz, z, ez, q3⟩ => ⟨I3.kIn, ?_⟩
  rw [hks]
  subst ez
  exact run_fnk (us := .ref a :: us) (vs := .ref a :: vs) F hr (hl.to hb) hx I3 (.cons rfl r) rz q3
end
/-- a while by a count that falls; the test's ways stay folded -/
theorem whileF {c : TT} {tb : TS} {D : Ends} {σ : L2.St} {H : Hp} (W : Nat → L2.St → Hp → Prop) (m : Nat) (h0 : W m σ H)
    (hs : ∀ m σ H, W m σ H → ∀ A B : Hp → Prop, (∀ H1, tb { D with nx := fun σ' H' => ∃ m', m' < m ∧ W m' σ' H', ct := fun σ' H' => ∃ m', m' < m ∧ W m' σ' H', bk := D.nx } σ H1 → A H1) → (∀ H1, D.nx σ H1 → B H1) → c σ H fun b H1 => if b = true then A H1 else B H1) : tWhile c tb D σ H := by
  refine ⟨W, ⟨m, h0⟩, fun m σ H p => ?_⟩
  exact hs m σ H p _ _ (fun H1 t => ⟨fun σ' H' => ∃ m', m' < m ∧ W m' σ' H', fun σ' H' k => k, t⟩) (fun H1 x => x)
end Fx
/-! Order of data: x > y of lists, sorted of data; a def with one default, by name -/
namespace Fx
open PySem PySem.Spec PyProof.Rows L2
def rGtD (K : PySem.W.Frag) : R2 := fun x y H Q => ∃ d e, Dp K H x d ∧ Dp K H y e ∧ PySem.W.alike d e = true ∧ d ≠ .none ∧ d.depth ≤ 8 ∧ Q (.bl (PySem.W.dataLt e d)) H
theorem op_gtD {X : Cx} (hu : X.A.units + 64 < cLine) : OpR X (compareOp .Gt) (rGtD X.K) := by
  intro pins s σ H x y v u Q I rx ry h
  obtain ⟨d, e, hd, he, al, nn, dp, q⟩ := h
  obtain ⟨as, r1⟩ := Dp.reads I d x v hd rx
  obtain ⟨bs, r2⟩ := Dp.reads I e y u he ry
  exact PySem.W.gt_data r1 r2 al nn (by omega) ⟨.bl _, H, I, rfl, q⟩
abbrev srtD (ps : List (V × PyData)) : List (V × PyData) := ps.mergeSort (PySem.W.dataLe false (fun p => p.2))
/-- sorted(xs), xs a list of tuples of any number, that are alike -/
def rSortD (K : PySem.W.Frag) : List V → Hp → VK → Prop := fun vs H Q => ∃ (a : Addr) (ps : List (V × PyData)), vs = [V.ref a] ∧ SqL K H a (ps.map (·.1)) ∧ (∀ p ∈ ps, Dp K H p.1 p.2) ∧ (∀ p ∈ ps, ∀ q ∈ ps, PySem.W.alike p.2 q.2 = true) ∧ (∀ p ∈ ps, ∃ x r, p.2 = .tuple (x :: r)) ∧ (∀ p ∈ ps, p.2.depth ≤ 8) ∧
  ∀ q, H q = none → Q (.ref q) (upd H q (.lst ((srtD ps).map (·.1))))
theorem each_of {X : Cx} {pins : List (Addr × Obj)} {σ : L2.St} {H : Hp} {s : Shared} (I : Inv X pins σ H s) : ∀ {ps : List (V × PyData)} {its : List Value}, Vals (ps.map (·.1)) its → (∀ p ∈ ps, Dp X.K H p.1 p.2) →
    PySem.W.EachIs (fun v (p : V × PyData) => RelV p.1 v) its ps ∧ PySem.W.EachIs (fun v (p : V × PyData) => ∃ as, Reads s.heap v p.2 as) its ps
  | [], its, r, _ => by
    cases r
    exact ⟨.nil, .nil⟩
  | p :: ps, its, r, h => by
    cases r with
    | cons r1 r2 =>
      obtain ⟨e1, e2⟩ := each_of I r2 fun q hq => h q (List.mem_cons_of_mem _ hq)
      exact ⟨.cons r1 e1, .cons (Dp.reads I p.2 p.1 _ (h p List.mem_cons_self) r1) e2⟩
theorem vals_each : ∀ {ps : List (V × PyData)} {out : List Value}, PySem.W.EachIs (fun v (p : V × PyData) => RelV p.1 v) out ps → Vals (ps.map (·.1)) out
  | _, _, .nil => .nil
  | _, _, .cons h t => .cons h (vals_each t)
theorem sort_D {X : Cx} (hu : X.A.units + 64 < cLine) : CallR X (.builtin "sorted") (rSortD X.K) := by
  intro pins s σ H vs us Q I r h
  obtain ⟨a, ps, rfl, hs, hd, al, tp, dp, q⟩ := h
  obtain ⟨its, rv, hl, hz⟩ := I.list hs
  obtain ⟨u, rfl, ru⟩ := r.one
  cases ru
  obtain ⟨e1, e2⟩ := each_of I rv hd
  have hz2 : ps.length ≤ sizeLine := by
    rw [List.length_map] at hz
    exact hz
  refine PySem.W.sorted_data (enc := fun p : V × PyData => p.2) hl.isList e1 e2 ?_ ?_ hz2 (fun b hb => by have := dp b hb; omega) fun out ol he => ?_
  · intro d hd d' hd'
    obtain ⟨b, hb, rfl⟩ := List.mem_map.mp hd
    obtain ⟨b', hb', rfl⟩ := List.mem_map.mp hd'
    exact al b hb b' hb'
  · refine .inl fun d hd => ?_
    obtain ⟨b, hb, rfl⟩ := List.mem_map.mp hd
    exact tp b hb
  obtain ⟨ep, he'⟩ := PyProof.Rows.sortedAll_at s.heap its out.toArray
  have hlen : ((srtD ps).map (·.1)).length ≤ sizeLine := by
    rw [List.length_map, List.length_mergeSort]
    exact hz2
  exact ⟨.ref _, upd H (s.heap.objs.size + 1) (.lst ((srtD ps).map (·.1))), I.laid (t' := s.toks) (fun _ _ => PyProof.Rows.sortedAll_old) (Nat.le_succ _) ⟨hlen, out, ep, vals_each he, he'⟩, rfl, q _ (I.hok.fresh (Nat.le_succ _))⟩
/-! ### a def with one default, by name -/
structure CalDK (P : Program) (w : World) (K : PySem.W.Frag) (mg : Str → Option Value) (base : Heap) (CX : CXT) (k : Nat) (x : Str) (ps : List Str) (dv : V) (kw : Str) (sp : Sp) : Prop where
  ex : ∃ f fd ds, mg x = some (.ref f) ∧ PySem.W.keepIn K (.ref f) = true ∧ Binds K fd ps [] ∧ Vals [dv] ds ∧ Binds K fd ps ds ∧ KwLast K fd ps kw ∧ FnOk P w K mg base CX k f fd ps sp
section
variable {P : Program} {w : World} {K : PySem.W.Frag} {mg : Str → Option Value} {base : Heap} {CX : CXT} {x : Str} {st : Stmt} {N ps : List Str} {k : Nat} {dv : V} {kw : Str} {sp : Sp}
theorem CalDK.d (M : CalDK P w K mg base CX k x ps dv kw sp) : CalD P w K mg base CX k x ps dv sp := by
  obtain ⟨f, fd, ds, g, kp, b, v, b0, _, F⟩ := M.ex
  exact ⟨f, fd, ds, g, kp, b, v, b0, F⟩
theorem CalDK.full (M : CalDK P w K mg base CX k x ps dv kw sp) : Cal P w K mg base CX k x ps sp := M.d.full
theorem SrcD.ofK (S : SrcD K mg x st dv) (n : Nat) (hn : n + 1 = ps.length) (b1 : BindD x x st ps (n + 1) 1) (b0 : BindD x x st ps n 0) (bk : BindK x x st ps kw n) (ok : ∀ {f fd}, FunD K x x (defArgs st) (defBody st) (defScope st) [dv] [] f fd → FnOk P w K mg base CX k f fd ps sp) : CalDK P w K mg base CX k x ps dv kw sp := by
  obtain ⟨f, fd, g, F⟩ := S
  obtain ⟨ds1, v1, B1⟩ := F.binds1 (ps := ps) (n + 1) 1 (by simp) (by simpa using hn) b1
  obtain ⟨ds0, v0, B0⟩ := F.binds1 (ps := ps) n 0 (by simp) (by simpa using hn) b0
  have e : ds1 = [] := by
    cases v1
    rfl
  subst e
  exact ⟨f, fd, ds0, g, F.kp, B1, v0, B0, kwLast_of F n hn bk, ok F⟩
end
section
variable {X : Cx} {CX : CXT} {E : XK} {k : Nat} {x kw : Str} {ps : List Str} {dv : V} {sp : Sp} {e : Expr} {es : List Expr} {kws : List Keyword} {t tk : TA} {p pos : Pos}
/-- f(e, .., kw = v) -/
theorem pe_calDK (C : CalDK X.prog X.w X.K X.mg X.base CX k x ps dv kw sp) (hr : Room k X.A) (hx : Passes CX X E) (ha : PA X (e :: es) t) (hkw : PK X kws tk) (hg : Gl X x := by rfl)
    (hall : (backToKw pos (keywordEach kws X.env)).all (·.1.isSome) = true := by rfl) (hks : (backToKw pos (keywordEach kws X.env)).filterMap (·.1) = [kw] := by rfl)
    (hdb : (x == ("__debug__" : Str)) = false := by decide) (he : starEach (e :: es) X.env = (false, eval e X.env) :: starEach es X.env := by rfl)
    (hpl : ((backTo pos (starEach (e :: es) X.env)).any (·.1) || (backToKw pos (keywordEach kws X.env)).any (·.1.isNone)) = false := by rfl) :
    PE X (.Call (.Name x p) (e :: es) kws pos) (tCallK sp (fun vs zs => vs ++ zs.take 1) E t tk) := by
  obtain ⟨f, fd, ds, g, kp, b, _, _, kl, F⟩ := C.ex
  exact pe_callK F hr hg g kp (kl.to b) hx ha hkw hall hks hdb he hpl
end
theorem blkOk_cast {N : List Str} {sc sc' scope : Scope} {own : List (Str × Nat)} (e : sc' = sc) (h : BlkOk N sc scope own) : BlkOk N sc' scope own := e ▸ h
end Fx
/-! list(o) of an object whose __iter__ gives a list's iterator; an own __setitem__; a staticmethod called by its class; several except clauses with a name -/
namespace Fx
open PySem PySem.Spec PyProof.Rows L2
/-! ### iter(t), t a tuple; list(o) of an instance whose __iter__ says iter(self.f) -/
def LItO (p it : Addr) (i : Nat) : HO := .ext fun h => h.IsListIter it p i
theorem litO_ok {P : Program} {w : World} {H : Hp} {h : Heap} {p it : Addr} {i : Nat} (e : h.IsListIter it p i) : ObjOk P w H h it (LItO p it i) := ⟨e, let ⟨o, ho, _⟩ := e; ⟨o, ho⟩, fun h1 h2 q k => let ⟨o, ho, r⟩ := q; ⟨o, k _ ho, r⟩⟩
section
variable {prog : Program} {w : World} {A : Around} {E : Value → Shared → Prop} {s : Shared}
theorem call_iterL0 {t : Addr} {items : Array Value} {Q : Value → Shared → Prop} (hl : s.heap.IsList t items) (h : Q (.ref s.heap.objs.size) { s with heap := s.heap.push { cls := .type "list_iterator", data := .fields #[.ref t, .int 0 0] } }) : wpAny (model prog w) A (call (.builtin "iter") [.ref t]) Q E s := by
  refine Calls.call_function_entry (by decide +kernel) (by decide +kernel) PySem.W.kdk_entry_iter (PySem.W.kdk_args_iter _) ?_
  unfold Builtin.«iter»
  refine wpAny_bind (m := someArgs "iter" 1 2 _) (wpAny_of_eq (a := [Value.ref t]) (by first | rfl | kernel_rfl!) ?_)
  show wpAny _ _ (pyIter (.ref t) >>= _) _ _ _
  refine wpAny_bind (wpAny_pyIter_list hl ?_)
  exact wpAny_pure ⟨_, rfl, h⟩
/-- the end, with the iterator still there -/
theorem next_list_endX {it t : Addr} {i : Nat} {items : Array Value} {Q : Option Value → Shared → Prop} (hh : A.handled = none)
    (hit : s.heap.IsListIter it t i) (ht : s.heap.IsList t items) (hx : items[i]? = none)
    (hQ : ∀ h', Heap.ExtBut it s.heap h' → (∃ o, h'.get? it = some o) → Q none { s with heap := h' }) : wpAny (model prog w) A (pyNext (.ref it)) Q E s := by
  obtain ⟨o, ho, hc, hd⟩ := id hit
  obtain ⟨ol, hol, _, nl, hdl⟩ := ht
  unfold pyNext
  refine wpAny_bind (wpAny_attempt (wpAny_callSpecial?_slot (name := Str.ofString "__next__") hit.typeIs slot_listiter_next
    (wpAny_call_entry slot_listiter_next hit.typeIs entry_listiter_next ?_ (args_listiter_next _))))
  show wpAny _ _ (field (.ref it) 0 >>= _) _ _ s
  refine wpAny_bind (wpAny_field ho hd (x := .ref t) rfl ?_)
  show wpAny _ _ (if (Value.ref t == Value.none) = true then _ else _) _ _ s
  rw [if_neg (show ¬ ((Value.ref t == Value.none) = true) from Bool.false_ne_true)]
  show wpAny _ _ (field (.ref it) 1 >>= _) _ _ s
  refine wpAny_bind (wpAny_field ho hd (x := .int i 0) rfl ?_)
  show wpAny _ _ (seqItems? (.ref t) >>= _) _ _ s
  refine wpAny_bind (wpAny_seqItems hol hdl ?_)
  simp only [Int.toNat_natCast, hx]
  refine wpAny_bind (wpAny_rule (wpAny_bind (wpAny_setField ho hd (by simp) ?_)))
  show wpAny _ _ (newExc (.type "StopIteration") [] >>= _) _ _ _
  refine wpAny_bind ?_
  simp only [newExc, newTuple]
  refine wpAny_bind (wpAny_newObj_type ?_ (by size_fits))
  refine wpAny_bind (m := firstArgMember _ _) (wpAny_of_eq (a := Value.none) (by first | rfl | (simp only [firstArgMember]; rfl)) ?_)
  refine wpAny_newObj_type ?_ (by size_fits)
  simp only [raiseNew]
  refine wpAny_bind (wpAny_handled ?_)
  first | rw [show A.in1.handled = none from hh] | rw [hh]
  refine wpAny_bind (wpAny_pure (wpAny_throw ?_))
  refine wpAny_bind (wpAny_isInstance (T := "StopIteration") (b := true) ⟨_, Heap.get?_push_size _ rfl, rfl⟩ isSubtype_stop ?_)
  refine wpAny_pure (hQ _ (((Heap.SameBut.update ..).extBut.push _).push _) ⟨_, Heap.get?_push_of_some _ (Heap.get?_push_of_some _ (Heap.get?_update_self _ ho (Obj.isFreed_of_fields (Obj.data_mapFields hd _))))⟩)
end
section
variable {X : Cx}
/-- iter(t) -/
def rIterL : List V → Hp → VK → Prop := fun xs H Q => ∃ t, xs = [.ref t] ∧ ∃ zs, H t = some (.lst zs) ∧ ∀ it, H it = none → Q (.ref it) (upd H it (LItO t it 0))
theorem iter_L : CallR X (.builtin "iter") rIterL := by
  intro pins s σ H xs us Q I r h
  obtain ⟨t, rfl, zs, hq, q⟩ := h
  obtain ⟨u, rfl, ru⟩ := r.one
  cases ru
  obtain ⟨its, rv, pl, hz⟩ := I.list (xs := zs) (.inl (.inl hq))
  refine call_iterL0 pl.isList ?_
  exact ⟨.ref s.heap.objs.size, _, I.laid (t' := s.toks) (fun b u e => Heap.get?_push_of_some _ e) (Nat.le_refl _) (litO_ok ⟨_, Heap.get?_push_size _ rfl, rfl, rfl⟩), rfl, q _ (I.hok.fresh (Nat.le_refl _))⟩
variable {pins : List (Addr × Obj)} {σ : L2.St} {A1 : Around}
theorem lst_loop {H0 : Hp} {p it q : Addr} {ys : List V} {Rs : Result → Shared → Prop} (hh : A1.handled = none) (hiq : it ≠ q) (hpi : p ≠ it) (hpq : p ≠ q) (hp : H0 p = some (.lst ys)) (hl : ys.length ≤ sizeLine)
    (hdone : ∀ s, Inv X pins σ (upd (upd H0 it (EndO it)) q (.lst ys)) s → Rs (.ok (.ret .none)) s) :
    ∀ (m i : Nat) (s : Shared), ys.length - i = m → i ≤ ys.length → Inv X pins σ (upd (upd H0 it (LItO p it i)) q (.lst (ys.take i))) s → codeAny (model X.prog X.w) A1 (.builtin "list.extend.loop" ⟨[.ref q, .ref it, .none], []⟩) Rs s := by
  intro m
  induction m with
  | zero =>
    intro i s hm hi I
    have ei : i = ys.length := by omega
    refine codeAny_builtin PySem.F.entry_extend_loop ?_
    rw [Around.under_plainId PySem.F.plain_extend_loop _]
    show wpAny _ A1.in1 (pyNext (.ref it) >>= _) _ _ s
    have hH : upd (upd H0 it (LItO p it i)) q (.lst (ys.take i)) it = some (LItO p it i) := by rw [upd_ne hiq, upd_same]
    have hP : upd (upd H0 it (LItO p it i)) q (.lst (ys.take i)) p = some (.lst ys) := by rw [upd_ne hpq, upd_ne hpi]; exact hp
    have hit : s.heap.IsListIter it p i := (I.hok it _ hH).1
    obtain ⟨its, rv, pl, hz⟩ := I.list (xs := ys) (.inl (.inl hP))
    refine wpAny_bind (next_list_endX (A := A1.in1) hh hit pl.isList (by rw [List.getElem?_toArray]; exact rv.none_of (by rw [ei]; exact List.getElem?_eq_none (Nat.le_refl _))) fun h' eb ex => ?_)
    refine wpAny_pure (hdone _ ?_)
    have mu : Mut (upd (upd H0 it (LItO p it i)) q (.lst (ys.take i)) it) := by rw [hH]; exact True.intro
    have I2 := I.write (x := it) (e := it) (t' := s.toks) mu (.inl rfl) (fun b o nb z => eb b o nb z) ex (endO_ok (H := upd (upd (upd H0 it (LItO p it i)) q (.lst (ys.take i))) it (EndO it)) ex)
    rw [upd_in hiq, ei, List.take_length] at I2
    exact I2
  | succ m ih =>
    intro i s hm hi I
    have hlt : i < ys.length := by omega
    refine codeAny_builtin PySem.F.entry_extend_loop ?_
    rw [Around.under_plainId PySem.F.plain_extend_loop _]
    show wpAny _ A1.in1 (pyNext (.ref it) >>= _) _ _ s
    have hH : upd (upd H0 it (LItO p it i)) q (.lst (ys.take i)) it = some (LItO p it i) := by rw [upd_ne hiq, upd_same]
    have hP : upd (upd H0 it (LItO p it i)) q (.lst (ys.take i)) p = some (.lst ys) := by rw [upd_ne hpq, upd_ne hpi]; exact hp
    have hit : s.heap.IsListIter it p i := (I.hok it _ hH).1
    obtain ⟨its, rv, pl, hz⟩ := I.list (xs := ys) (.inl (.inl hP))
    obtain ⟨u, hu, ru⟩ := rv.get (List.getElem?_eq_getElem hlt)
    refine wpAny_bind (wpAny_pyNext_list_item hit pl.isList (x := u) (by rw [List.getElem?_toArray]; exact hu) fun h' e' sb => ?_)
    have mu : Mut (upd (upd H0 it (LItO p it i)) q (.lst (ys.take i)) it) := by rw [hH]; exact True.intro
    have ex : ∃ o, h'.get? it = some o := let ⟨o, ho, _⟩ := e'; ⟨o, ho⟩
    have I2 := I.write (x := it) (e := it) (t' := s.toks) mu (.inl rfl) (fun b o nb z => (sb.2 b nb).trans z) ex (litO_ok (H := upd (upd (upd H0 it (LItO p it i)) q (.lst (ys.take i))) it (LItO p it (i + 1))) e')
    rw [upd_in hiq] at I2
    have hq2 : upd (upd H0 it (LItO p it (i + 1))) q (.lst (ys.take i)) q = some (.lst (ys.take i)) := upd_same
    obtain ⟨z, its2, k, r2, hl2, e2⟩ := I2.lstM hq2
    show wpAny _ A1.in1 (updateSeq q (·.push u) >>= _) _ _ _
    have lt : (ys.take i).length = i := by rw [List.length_take]; omega
    refine wpAny_bind (wpAny_updateSeq e2 rfl (wpAny_pure ⟨plainId_quiet PySem.F.plain_extend_loop _, ?_⟩) (by rw [List.size_toArray]; omega) (by show (its2.toArray.push u).size ≤ sizeLine + 1; rw [Array.size_push, List.size_toArray]; omega))
    have I3 := I2.lset (f := (·.push u)) (its' := its2 ++ [u]) (ys := ys.take i ++ [ys[i]]) (t' := s.toks) hq2 e2 (by simp) (r2.append (.cons ru .nil)) (by rw [List.length_append, List.length_singleton]; omega)
    rw [upd_upd, List.take_append_getElem hlt] at I3
    exact ih (i + 1) _ (by omega) hlt I3
end
end Fx
namespace Fx
open PySem PySem.Spec PyProof.Rows L2
section
variable {X : Cx} {k : Nat} {C : Addr} {psI psL : List Str} {spI spL : Sp}
/-- list(o) -/
def rListOL (C : Addr) (spI spL : Sp) : List V → Hp → VK → Prop := fun xs H Q => ∃ a, xs = [.ref a] ∧ ∃ dx fs, H a = some (.ins C dx fs) ∧ ∀ q, H q = none → spI [.ref a] (upd H q (.lst [])) (fun v H1 => ∃ it, v = .ref it ∧ ∃ p, H1 it = some (LItO p it 0) ∧ ∃ dx fs, H1 a = some (.ins C dx fs) ∧
  spL [.ref a] H1 (fun v2 H2 => ∃ n, v2 = .int n ∧ 0 ≤ n ∧ n ≤ 1000000 ∧ H2 it = some (LItO p it 0) ∧ H2 q = some (.lst []) ∧ ∃ ys, H2 p = some (.lst ys) ∧ p ≠ q ∧ Q (.ref q) (upd (upd H2 it (EndO it)) q (.lst ys))) E0) E0
theorem list_OL (MI : CalM X.prog X.w X.K X.mg X.base CX0 k C "__iter__" psI spI) (ML : CalM X.prog X.w X.K X.mg X.base CX0 k C "__len__" psL spL) (hc : X.calm = true) (hr : Room (k + 3) X.A) : CallR X (.type "list") (rListOL C spI spL) := by
  intro pins s σ H xs us Q I rv h
  obtain ⟨a, rfl, dx, fs, ha, hq⟩ := h
  obtain ⟨u, rfl, ru⟩ := rv.one
  cases ru
  refine callType_codes (Q₁ := fun obj s₁ => obj = .ref s.heap.objs.size ∧ s₁ = { s with heap := s.heap.push { cls := .type "list", data := .seq #[] } }) PySem.F.called_list (PySem.F.typeCall_list_1 _) PySem.F.entry_list_init
    (code_list_new _ ⟨rfl, rfl⟩) fun obj s₁ h₁ => ?_
  obtain ⟨rfl, rfl⟩ := h₁
  have hS : (s.heap.push { cls := .type "list", data := .seq #[] }).get? s.heap.objs.size = some { cls := .type "list", data := .seq #[] } := Heap.get?_push_size _ rfl
  refine ⟨⟨_, hS, rfl⟩, PySem.F.args_list_init_2 _ _, ?_⟩
  have fr : H s.heap.objs.size = none := I.hok.fresh (Nat.le_refl _)
  have hq := hq _ fr
  have I1 : Inv X pins σ (upd H s.heap.objs.size (.lst [])) { s with heap := s.heap.push { cls := .type "list", data := .seq #[] } } := I.lnew (its := []) (t' := s.toks) .nil (Nat.zero_le _)
  show wpAny _ _ (do let old ← Builtin.List.listItems (.ref s.heap.objs.size); Builtin.List.listUpdate (.ref s.heap.objs.size) (fun _ => #[]); letGo old.toList.reverse; Builtin.List.listExtendWith (.ref s.heap.objs.size) (.ref a) .none) _ _ _
  refine wpAny_bind ?_
  unfold Builtin.List.listItems
  refine wpAny_bind (wpAny_seqItems hS rfl (wpAny_pure ?_))
  show wpAny _ _ (updateSeq s.heap.objs.size (fun _ => #[]) >>= fun _ => letGo (#[] : Array Value).toList.reverse >>= fun _ => Builtin.List.listExtendWith (.ref s.heap.objs.size) (.ref a) .none) _ _ _
  refine wpAny_bind (wpAny_updateSeq hS rfl ?_)
  have I2 := I1.lset (f := fun _ => #[]) (its := []) (its' := []) (ys := []) (t' := s.toks) upd_same hS rfl .nil (Nat.zero_le _)
  rw [upd_upd] at I2
  refine wpAny_bind (wpAny_letGo ?_)
  have ha2 : upd H s.heap.objs.size (.lst []) a = some (.ins C dx fs) := by rw [upd_ne (ne_of_none ha fr)]; exact ha
  generalize s.heap.objs.size = q at *
  have hne : q ≠ a := fun e => by
    rw [e, ha] at fr
    cases fr
  obtain ⟨fi, fdi, mi, bi, Fi⟩ := MI.ex
  obtain ⟨ox, od, J⟩ := inst_at I2 ha2
  obtain ⟨mm, hF⟩ := I2.fr
  have hr1 : Room k X.A.in1.in1 := (Room.in1 (Room.in1 hr)).mono (Nat.le_succ _)
  unfold Builtin.List.listExtendWith
  refine wpAny_bind (J.type.here ?_)
  have h1 : Builtin.List.listSameRef (.ref q) (.ref a) = false := by simp [Builtin.List.listSameRef, hne]
  have h2 : (Value.ref C == Value.type "list") = false := rfl
  have h3 : (Value.ref C == Value.type "tuple") = false := rfl
  simp only [h1, h2, h3, Bool.or_false, Bool.false_eq_true, if_false]
  refine wpAny_bind (PySem.W.owit_iter hF I2.ok.mod.kin J mi.at_ mi.fn ?_)
  refine wpAny_mono (run_fn0 (E' := fun _ _ => False) (A := X.A.in1.in1) (vs := [.ref a]) (us := [.ref a]) rfl Fi hr1 bi I2 (.cons rfl .nil) hq) (fun v s' hv => ?_) fun _ _ z => z.elim
  obtain ⟨z, H1, I3, rz, it, rfl, p, hit, dx1, fs1, ha3, hsp⟩ := hv
  cases rz
  have hit0 : s'.heap.IsListIter it p 0 := (I3.hok it _ hit).1
  unfold PySem.W.OwitIt
  refine wpAny_specialOf (name := Str.ofString "__next__") hit0.typeIs slot_listiter_next.lookup ?_
  refine wpAny_bind (wpAny_holding ?_)
  refine own_hintL (A := X.A.in1.in1) rfl ML ((Room.in1 (Room.in1 hr))) I3 ha3 (R := fun H2 => H2 it = some (LItO p it 0) ∧ H2 q = some (.lst []) ∧ ∃ ys, H2 p = some (.lst ys) ∧ p ≠ q ∧ Q (.ref q) (upd (upd H2 it (EndO it)) q (.lst ys))) hsp (fun room H2 s2 I4 hR => ?_)
  obtain ⟨hi2, hq2, ys, hp2, hpq, hQ⟩ := hR
  have hiq : it ≠ q := ne_of hi2 hq2 (by unfold LItO; intro z; cases z)
  have hpi : p ≠ it := ne_of hp2 hi2 (by unfold LItO; intro z; cases z)
  have hl : ys.length ≤ sizeLine := (I4.hok p _ hp2).1
  have e0 : upd (upd H2 it (LItO p it 0)) q (.lst (ys.take 0)) = H2 := by
    funext c
    unfold upd
    by_cases h1 : c = q
    · rw [if_pos h1, h1]
      exact hq2.symm
    · rw [if_neg h1]
      by_cases h2 : c = it
      · rw [if_pos h2, h2]
        exact hi2.symm
      · rw [if_neg h2]
  have go : ∀ s3, Inv X pins σ H2 s3 → codeAny (model X.prog X.w) X.A.in1 (.builtin "list.extend.loop" ⟨[.ref q, .ref it, .none], []⟩) (wants (fun r s₂ => r = .none ∧ EP X pins σ Q (.ref q) s₂) X.xe) s3 := fun s3 I5 =>
    lst_loop (A1 := X.A.in1) (H0 := H2) (show X.A.in1.handled = none from I5.ok.hd hc) hiq hpi hpq hp2 hl (fun s4 I6 => ⟨rfl, .ref q, _, I6, rfl, hQ⟩) ys.length 0 s3 (by omega) (Nat.zero_le _) (by rw [e0]; exact I5)
  obtain ⟨z, its, kk, r3, hl3, e3⟩ := I4.lstM hq2
  cases r3
  refine wpAny_ite_split (fun _ => ?_) (fun _ => wpAny_pure ⟨plainId_quiet PySem.F.plain_extend_loop _, go _ I4⟩)
  refine wpAny_bind (wpAny_rule ?_)
  refine wpAny_bind ?_
  show wpAny _ _ (updateSeq q (·.push .none) >>= fun _ => updateSeq q (·.pop)) _ _ _
  refine wpAny_bind (wpAny_updateSeq e3 rfl ?_)
  have J2 := I4.lset (f := (·.push Value.none)) (its' := [Value.none]) (ys := [.non]) (t' := s2.toks) hq2 e3 (by simp) (.cons rfl .nil) (by rw [List.length_singleton, sizeLine_eq]; decide)
  obtain ⟨z4, its4, k4, r4, hl4, e4⟩ := J2.lstM upd_same
  obtain ⟨u4, rfl, ru4⟩ := r4.one
  refine wpAny_updateSeq e4 rfl ?_ (by show 1 ≤ sizeLine; rw [sizeLine_eq]; decide) (by show 0 ≤ sizeLine + 1; exact Nat.zero_le _)
  refine wpAny_pure ⟨plainId_quiet PySem.F.plain_extend_loop _, go _ ?_⟩
  have J3 := J2.lset (f := (·.pop)) (its := [u4]) (its' := []) (ys := []) (t' := s2.toks) upd_same e4 (by rfl) .nil (Nat.zero_le _)
  rw [upd_upd] at J3
  have hH : upd H2 q (.lst []) = H2 := by
    funext b
    by_cases hb : b = q
    · rw [hb, upd_same, hq2]
    · rw [upd_ne hb]
  rw [hH] at J3
  exact J3
end
end Fx
namespace Fx
open PySem PySem.Spec PyProof.Rows L2
section
variable {X : Cx} {CX : CXT} {k : Nat} {C : Addr} {ps : List Str} {sp : Sp} {E : XK}
/-- o[i] = v by the own __setitem__ -/
def rSetO (C : Addr) (sp : Sp) (E : XK) : TSet := fun o i v H Q => ∃ a dx fs, o = .ref a ∧ H a = some (.ins C dx fs) ∧ sp [.ref a, i, v] H (fun _ H' => Q H') E
theorem set_O (M : CalM X.prog X.w X.K X.mg X.base CX k C "__setitem__" ps sp) (hq : PySem.W.noSeq X.K C = true) (hr : Room k X.A) (hx : Passes CX X E) : PSet X (rSetO C sp E) := by
  intro pins s σ H o i v ov iv u Q I ro ri rv h
  obtain ⟨f, fd, m, b, F⟩ := M.ex
  obtain ⟨a, dx, fs, rfl, hA, hsp⟩ := h
  cases ro
  obtain ⟨ox, od, J⟩ := inst_at I hA
  unfold setItem sequenceKey
  refine wpAny_holding (wpAny_bind (wpAny_bind (J.type.here ?_)))
  refine wpAny_bind ((PySem.W.anyM_none I.kIn hq).here ?_)
  rw [if_pos (show (!false) = true from rfl)]
  refine wpAny_pure (wpAny_bind (PySem.W.special_fn I.kIn J m.at_ (beq_iff_eq.mp m.fn) ?_))
  refine wpAny_mono (run_fnA (vs := [.ref a, i, v]) (us := [.ref a, iv, u]) rfl F hr b hx I (.cons rfl (.cons ri (.cons rv .nil))) hsp) (fun w s' hv => ?_) fun _ _ z => z
  obtain ⟨z, H', I', _, q⟩ := hv
  exact wpAny_pure ⟨H', I', q⟩
end
/-! ### a staticmethod, called by its class -/
structure CSta (K : PySem.W.Frag) (C : Addr) (mc : Value) (m : Str) (p g : Addr) : Prop where
  at_ : PySem.W.findCls K (.ref C) mc m = some (.get (.builtin "staticmethod.__get__") (.ref p) .none (.ref C))
  rc : ∃ rest, PySem.W.recIn K p "staticmethod" = some (.ref g :: rest)
  kp : PySem.W.keepIn K (.ref g) = true
section
variable {X : Cx} {CX : CXT} {k : Nat} {C p g : Addr} {mc : Value} {m : Str} {fd : FuncData} {ps : List Str} {sp : Sp} {E : XK} {o e : Expr} {es : List Expr} {ta : TE} {t : TA} {pos apos : Pos}
/-- e.m(..), e the class at C, m a staticmethod -/
def tSMeth (C : Addr) (sp : Sp) (E : XK) (ta : TE) (t : TA) : TE := fun σ H Q => ta σ H fun x H1 => x = .ref C ∧ t σ H1 fun vs H2 => sp vs H2 Q E
theorem pe_smeth {pl : Sem Bool} (he : PE X o ta) (r : ClX.CRead X.K C mc) (c : CSta X.K C mc m p g) (F : FnOk X.prog X.w X.K X.mg X.base CX k g fd ps sp) (hr : Room k X.A) (hb : Binds X.K fd ps []) (hx : Passes CX X E) (ha : PA X (e :: es) t)
    (hst : starEach (e :: es) X.env = (false, eval e X.env) :: starEach es X.env := by rfl) (hpl : (backTo pos (starEach es X.env)).any (·.1) = false := by rfl)
    (ht : eval (.Call (.Attribute o m apos) (e :: es) [] pos) X.env = (do
      let ov ← eval o X.env
      standAt apos.atName
      let (f, first) ← holding [ov] (getMethod ov m pl)
      callWith pos f first (backTo pos (starEach (e :: es) X.env)) (backToKw pos (keywordEach [] X.env))) := by rfl) :
    PE X (.Call (.Attribute o m apos) (e :: es) [] pos) (tSMeth C sp E ta t) := by
  refine ⟨fun pins s σ H Q I h => ?_⟩
  refine PySem.W.methodCall_KW (pl := pl) (thn (he.run pins s σ H _ I h) fun u s1 ⟨x, H1, I1, rx, ex, q⟩ => ?_) ht
  subst ex
  obtain rfl : u = Value.ref C := rx
  obtain ⟨rest, hp⟩ := c.rc
  refine PySem.W.method_cls I1.kIn r.ga ?_
  refine PySem.W.cls_bind I1.kIn r.rd c.at_ ?_
  refine wpAny_call (PySem.W.sm_get (s := { s1 with toks := s1.toks + 1 }) I1.kIn hp (PySem.W.handed_on rfl ?_))
  refine PySem.W.callWith_K (first := []) (h₀ := X.base) I1.ok.mod.kin c.kp (thn (ha.run pos pins _ σ H1 _ (I1.tok _) q) fun us s2 ⟨vs, H2, I2, rv, q2⟩ => ⟨I2.kIn, ?_⟩) hst hpl
  exact run_fnA rfl F hr hb hx I2 rv q2
end
/-! ### several except clauses, each with the name n -/
def wManyAs (K : PySem.W.Frag) (i : Nat) (Wout : WX) (D : Ends) : List (Value × (Addr → Value → Option Addr → TS)) → WX
  | [] => Wout
  | (c, ts) :: r => fun cls d σ H => ∃ b, PySem.W.exmOne K cls c = some b ∧ (b = true → ∀ a, H a = none → ts a cls d { nx := fun σ' H' => D.nx (σ'.set i none) H', rt := D.rt, bk := fun σ' H' => D.bk (σ'.set i none) H', ct := fun σ' H' => D.ct (σ'.set i none) H' } (σ.set i (some (.ref a))) H) ∧ (b = false → wManyAs K i Wout D r cls d σ H)
inductive HdsAs (X : Cx) (n : Str) : List ExceptHandler → List (Value × (Addr → Value → Option Addr → TS)) → Prop
  | nil : HdsAs X n [] []
  | cons {x : Str} {c : Value} {ts : Addr → Value → Option Addr → TS} {b₀ : Stmt} {suite : List Stmt} {np pos' : Pos} {hds : List ExceptHandler} {l : List (Value × (Addr → Value → Option Addr → TS))} (hc : Names X x c)
      (hsu : ∀ (a : Addr) (oe : Obj) (cls : Value) (d : Option Addr) (pn : List (Addr × Obj)), Zc cls d oe → (∃ vs, oe.data = .fields vs) → PSs (X.suite a ((a, oe) :: pn)) (b₀ :: suite) (ts a cls d)) (r : HdsAs X n hds l) :
      HdsAs X n (.ExceptHandler (some (.Name x np)) (some n) (b₀ :: suite) pos' :: hds) ((c, ts) :: l)
section
variable {X : Cx} {n : Str} {i : Nat} {pins : List (Addr × Obj)} {σ : L2.St} {H : Hp} {s : Shared} {a : Addr} {cls : Value} {d : Option Addr} {B : Heap}
/-- an error at a is caught: the state in which the clauses are asked -/
structure Caught (X : Cx) (pins : List (Addr × Obj)) (σ : L2.St) (H : Hp) (a : Addr) (cls : Value) (d : Option Addr) (B : Heap) (s : Shared) : Prop where
  inv : Inv X pins σ H s
  fly : HandSPX.FlyingZ B (X.env :: X.outer) a (Zc cls d) s.heap
  na : H a = none
  nL : a ≠ X.env.locals
  nF : a ∉ X.fs
  on : ∀ h, HandSPX.FlyingZ B (X.env :: X.outer) a (Zc cls d) h → s.heap.UpToSlots h → Inv X pins σ H { s with heap := h }
/-- the clause's class is asked by its name -/
theorem Caught.test {oe : Obj} (C : Caught X pins σ H a cls d B s) (he : s.heap.get? a = some oe) {vs : Array Value} (hd : oe.data = .fields vs) {x : Str} {c : Value} {np : Pos} (hc : Names X x c) {Q : Value → Shared → Prop} {E : Value → Shared → Prop} (q : Q c s) :
    wpAny (model X.prog X.w) (X.A.mark (some (.ref a))) (eval (.Name x np) X.env) Q E s := by
  have S := C.inv.suite he hd C.na C.nL C.nF
  obtain ⟨g, nd, k⟩ := hc
  rcases k with k | ⟨k, k2, k3⟩
  · exact ld_glob (X := X.suite a ((a, oe) :: (X.pn ++ pins))) S g k q nd
  · exact ld_blt (X := X.suite a ((a, oe) :: (X.pn ++ pins))) S g k k2 q k3 nd
/-- one clause -/
theorem Caught.clause (C : Caught X pins σ H a cls d B s) (hfr : X.A.frames = some (X.env :: X.outer)) (hN : X.N.Nodup) (hi : X.N[i]? = some n) (hln : X.env.kindOf n = some .local) {x : Str} {c : Value} {ts : Addr → Value → Option Addr → TS} {b₀ : Stmt} {suite : List Stmt} {np pos : Pos} {hds : List ExceptHandler} {D : Ends} {b : Bool}
    (hc : Names X x c) (hsu : ∀ (a : Addr) (oe : Obj) (cls : Value) (d : Option Addr) (pn : List (Addr × Obj)), Zc cls d oe → (∃ vs, oe.data = .fields vs) → PSs (X.suite a ((a, oe) :: pn)) (b₀ :: suite) (ts a cls d))
    (hb : PySem.W.exmOne X.K cls c = some b)
    (yes : b = true → ts a cls d { nx := fun σ' H' => D.nx (σ'.set i none) H', rt := D.rt, bk := fun σ' H' => D.bk (σ'.set i none) H', ct := fun σ' H' => D.ct (σ'.set i none) H' } (σ.set i (some (.ref a))) H)
    (no : b = false → wpAny (model X.prog X.w) X.A (handleBy (.ref a) X.env hds) (SP X pins D) X.xe s) :
    wpAny (model X.prog X.w) X.A (handleBy (.ref a) X.env (.ExceptHandler (some (.Name x np)) (some n) (b₀ :: suite) pos :: hds)) (SP X pins D) X.xe s := by
  obtain ⟨oe, vs, he, hz, hd⟩ := C.fly.there
  have mt := PySem.W.exm_one (M := model X.prog X.w) C.inv.kIn (fun A Q E s' k q => wpAny_typeOf_ref (k _ _ he) (by rw [hz.1]; exact q)) hb
  refine wpAny_handleBy_cons (codeAny_handlers_test (C.test he hd hc (mt.here ?_))) nofun
  cases b with
  | false => exact no rfl
  | true =>
    have t := yes rfl
    clear yes no
    refine codeAny_handlers_suite_as (HandSPX.lands_againZ C.fly fun h fl up => ?_)
    obtain ⟨o4, v4, e4, z4, d4⟩ := fl.there
    have S := (C.on h fl up).suite e4 d4 C.na C.nL C.nF
    refine store_ok (X := X.suite a ((a, o4) :: (X.pn ++ pins))) (v := .ref a) S hN hi (.inl hln) rfl (fun s5 S5 => ?_) (.inr hln)
    refine wpAny_mono ((hsu a o4 cls d (X.pn ++ pins) z4 ⟨v4, d4⟩).run [] s5 _ H _ S5 t) (fun f s6 r => ?_) fun _ _ z => z.elim
    have away : ∀ {σ6 : L2.St} {H6 : Hp} {Q : Shared → Prop}, Inv (X.suite a ((a, o4) :: (X.pn ++ pins))) [] σ6 H6 s6 → (∀ s7, Inv X pins (σ6.set i none) H6 s7 → Q s7) → wpAny (model X.prog X.w) X.A (do bindName X.env n .none; unbindBehindTheSuite X.env n pos) (fun _ s7 => Q s7) X.xe s6 :=
      fun J q => gone_ok (J.unsuite C.inv.ok) hN hi hln q
    cases f with
    | ret u =>
      obtain ⟨y, σ6, H6, J, ry, q⟩ := r
      exact away J fun _ K => ⟨y, _, H6, K, ry, q⟩
    | _ =>
      obtain ⟨σ6, H6, J, q⟩ := r
      exact away J fun _ K => ⟨_, H6, K, q⟩
/-- no clause has taken it: it goes on -/
theorem Caught.out (C : Caught X pins σ H a cls d B s) (hf : X.env.frame = some X.env.locals) {D : Ends} (h : ∀ h', HandSPX.HeldZ B (X.env :: X.outer) a (Zc cls d) X.env.locals h' → s.heap.UpToSlots h' → X.xe (.ref a) { s with heap := h' }) : wpAny (model X.prog X.w) X.A (handleBy (.ref a) X.env []) (SP X pins D) X.xe s := by
  obtain ⟨_, _, _, oe, vs, T, oT, ts, he, hz, hd, h1, _⟩ := id C.fly
  refine wpAny_handleBy_nil ?_
  unfold PySem.passOn
  refine wpAny_bind (wpAny_field he hd h1 ?_)
  rw [if_neg (show ¬ ((Value.ref T == Value.none) = true) by simp)]
  have go : wpAny (model X.prog X.w) X.A (setFlight (.ref a) X.env.frame) (fun _ s4 => wpAny (model X.prog X.w) X.A (throw (.ref a) : Sem Flow) (SP X pins D) X.xe s4) X.xe s := by
    rw [hf]
    exact HandSPX.setFlight_upZ C.fly fun h' hh up => wpAny_throw (h h' hh up)
  first
    | exact wpAny_bind (wpAny_pure (wpAny_bind go))
    | exact wpAny_bind go
end
section
variable {X : Cx} {n : Str} {i : Nat} {body : List Stmt} {h₀ : ExceptHandler} {hds : List ExceptHandler} {l : List (Value × (Addr → Value → Option Addr → TS))} {pos : Pos} {tb : WX → TS} {Wout : WX}
theorem HdsAs.run {X : Cx} {n : Str} {i : Nat} {pins : List (Addr × Obj)} {σ : L2.St} {H : Hp} {s : Shared} {a : Addr} {cls : Value} {d : Option Addr} {B : Heap} {D : Ends} {Wout : WX} (C : Caught X pins σ H a cls d B s) (hfr : X.A.frames = some (X.env :: X.outer)) (hN : X.N.Nodup) (hi : X.N[i]? = some n) (hln : X.env.kindOf n = some .local)
    (out : Wout cls d σ H → wpAny (model X.prog X.w) X.A (handleBy (.ref a) X.env []) (SP X pins D) X.xe s) {hds : List ExceptHandler} {l : List (Value × (Addr → Value → Option Addr → TS))} (hh : HdsAs X n hds l) :
    wManyAs X.K i Wout D l cls d σ H → wpAny (model X.prog X.w) X.A (handleBy (.ref a) X.env hds) (SP X pins D) X.xe s := by
  induction hh with
  | nil => exact out
  | cons hc hsu _ ih => exact fun ⟨b, hb, yes, no⟩ => C.clause hfr hN hi hln hc hsu hb (fun e => yes e a C.na) fun e => ih (no e)
theorem ps_try_manyAs (hs : X.stack = X.env :: X.outer) (hf : X.env.frame = some X.env.locals) (hN : X.N.Nodup) (hi : X.N[i]? = some n) (hln : X.env.kindOf n = some .local) (tk : Takes X Wout)
    (hb : ∀ (W : WX) (pn : List (Addr × Obj)) (xe : Value → Shared → Prop), Takes (X.tr pn xe) W → PassesOwn (model X.prog X.w) X.A X.env xe → PSs (X.tr pn xe) body (tb W))
    (hh : HdsAs X n (h₀ :: hds) l) : PS X (.Try body (h₀ :: hds) [] [] pos) (fun D σ H => tb (wManyAs X.K i Wout D l) D σ H) := by
  refine ⟨fun pins s σ H D I h => wpAny_Try_except ?_⟩
  have ok := I.ok
  have hfr : X.A.frames = some (X.env :: X.outer) := by rw [ok.frames, hs]
  have caught : Takes (X.tr (X.pn ++ pins) (fun e s₁ => wpAny (model X.prog X.w) X.A (noteFrame e X.env) (fun _ s₂ => wpAny (model X.prog X.w) X.A (setFlight e none) (fun _ s₃ => wpAny (model X.prog X.w) X.A (handleBy e X.env (h₀ :: hds)) (SP X pins D) X.xe s₃) X.xe s₂) X.xe s₁)) (wManyAs X.K i Wout D l) := by
    rintro _ s1 ⟨a, B, sI, p1, σ1, H1, cls, d, rfl, J0, nb, up, sky, na, os, ag, w⟩
    have J := J0.ofTry ok
    rw [show X.stack = _ from hs] at sky
    refine Sky.land Zc.steady hfr hf sky fun h2 fl up2 => ?_
    obtain ⟨oe, vs, he, _, hd⟩ := fl.there
    have nfr : a ∉ frs (X.env :: X.outer) := fun m => by
      obtain ⟨_, o, e, nf⟩ := fl.2.2.1.mem m
      rw [he] at e
      cases e
      exact nf _ hd
    have C : Caught X pins σ1 H1 a cls d B { s1 with heap := h2 } := ⟨J.landed nb fl.1 (up.trans up2) os ag, fl, na,
      fun e => nfr (List.mem_filterMap.mpr ⟨X.env, List.mem_cons_self, by rw [hf, e]⟩),
      fun m => by
        obtain ⟨v, hv, q⟩ := List.mem_filterMap.mp m
        exact nfr (List.mem_filterMap.mpr ⟨v, List.mem_cons_of_mem _ hv, q⟩),
      fun h3 fl3 up3 => J.landed nb fl3.1 ((up.trans up2).trans up3) os ag⟩
    exact hh.run C hfr hN hi hln (fun wo => C.out hf fun h3 hd3 up3 => tk _ _ ⟨a, B, sI, pins, σ1, H1, cls, d, rfl, J, nb, (up.trans up2).trans up3, .inr (.inr (by rw [hs]; exact hd3)), na, os, ag, wo⟩) w
  refine wpAny_mono ((hb _ _ _ caught PassesOwn.looking).run [] s σ H D (I.toTry _) h) (fun f s1 r => ?_) fun _ _ z => z
  cases f with
  | next =>
    obtain ⟨σ1, H1, J, q⟩ := r
    exact wpAny_execs_nil ⟨σ1, H1, J.ofTry ok, q⟩
  | ret u =>
    obtain ⟨y, σ1, H1, J, ry, q⟩ := r
    exact ⟨y, σ1, H1, J.ofTry ok, ry, q⟩
  | _ =>
    obtain ⟨σ1, H1, J, q⟩ := r
    exact ⟨σ1, H1, J.ofTry ok, q⟩
end
end Fx
/-! staticmethods among the head's facts -/
namespace FxH
open PySem PySem.Spec PyProof.Rows L2 He
structure StD where
  x : Str
  m : Str
  qual : Str
  st : Stmt
/-- the def within the record -/
def stA (K : PySem.W.Frag) (x m : Str) : Addr := match PySem.W.recIn K (ma K (ga K x) m) "staticmethod" with
  | some (.ref f :: _) => f
  | _ => 0
def fnS (K : PySem.W.Frag) (d : StD) : FnW := match K.lookup (stA K d.x d.m) with
  | some ⟨_, _, .func fd, _⟩ => some (fd.name, fd.qualname, fd.params, fd.body, fd.scope, fd.globals, fd.closure, fd.builtins)
  | _ => none
def StD.val (d : StD) : FnW := some (d.m, d.qual, defArgs d.st, .stmts (defBody d.st), defScope d.st, mainGlobals, [], builtinsNs)
def StD.ok (K : PySem.W.Frag) (d : StD) : Bool := PySem.W.keepIn K (.ref (stA K d.x d.m)) && ((match K.lookup (stA K d.x d.m) with
  | some ⟨_, _, .func fd, _⟩ => PySem.W.codeIn K fd.code d.qual && (dflB K fd.defaults [] && kwdB K fd.kwdefaults [])
  | _ => false) && ((match PySem.W.findCls K (.ref (ga K d.x)) (.type "type") d.m with
    | some (.get (.builtin g) (.ref p) .none (.ref D)) => decide (g = "staticmethod.__get__") && (decide (p = ma K (ga K d.x) d.m) && decide (D = ga K d.x))
    | _ => false) && ((match PySem.W.recIn K (ma K (ga K d.x) d.m) "staticmethod" with
    | some (.ref _ :: _) => true
    | _ => false) && (PySem.W.readsIn K (ga K d.x) (.type "type") && eqO (PySem.W.specialIn K (.ref (ga K d.x)) "__getattribute__") (some (some (.builtin "type.__getattribute__")))))))
theorem StD.funD {K : PySem.W.Frag} {d : StD} (e : fnS K d = d.val) (c : d.ok K = true) : ∃ fd, FunD K d.m d.qual (defArgs d.st) (defBody d.st) (defScope d.st) [] [] (stA K d.x d.m) fd := by
  obtain ⟨kp, c⟩ := ba c
  obtain ⟨c2, _⟩ := ba c
  unfold fnS at e
  cases q : K.lookup (stA K d.x d.m) with
  | none =>
    rw [q] at c2
    cases c2
  | some o =>
    obtain ⟨oc, od, dt, osl⟩ := o
    rw [q] at c2 e
    cases dt with
    | func fd =>
      obtain ⟨n1, n2, n3, n4, n5, n6, n7, n8, n9, n10, n11, n12, n13, n14, n15⟩ := fd
      have e2 : (some (n1, n2, n3, n4, n5, n6, n7, n15) : FnW) = some (d.m, d.qual, defArgs d.st, .stmts (defBody d.st), defScope d.st, mainGlobals, [], builtinsNs) := e
      simp only [Option.some.injEq, Prod.mk.injEq] at e2
      obtain ⟨h1, h2, h3, h4, h5, h6, h7, h8⟩ := e2
      have c3 : (PySem.W.codeIn K n13 d.qual && (dflB K n8 [] && kwdB K n9 [])) = true := c2
      obtain ⟨k1, k2⟩ := ba c3
      obtain ⟨k3, k4⟩ := ba k2
      refine ⟨_, ⟨oc, od, n8, n9, n10, n11, n12, n13, n14, osl, ?_, q, k1, dflB_ok k3, kwdB_ok k4⟩, kp⟩
      rw [h1, h2, h3, h4, h5, h6, h7, h8]
    | _ => cases c2
theorem StD.sta {K : PySem.W.Frag} {d : StD} (c : d.ok K = true) : Fx.CSta K (ga K d.x) (.type "type") d.m (ma K (ga K d.x) d.m) (stA K d.x d.m) ∧ ClX.CRead K (ga K d.x) (.type "type") := by
  obtain ⟨kp, c⟩ := ba c
  obtain ⟨_, c⟩ := ba c
  obtain ⟨c3, c⟩ := ba c
  obtain ⟨c4, c⟩ := ba c
  obtain ⟨c5, c6⟩ := ba c
  refine ⟨⟨?_, ?_, kp⟩, ⟨c5, eqO_ok c6⟩⟩
  · split at c3
    · rename_i g p D e
      obtain ⟨k1, k⟩ := ba c3
      obtain ⟨k2, k3⟩ := ba k
      rw [e, of_decide_eq_true k1, of_decide_eq_true k2, of_decide_eq_true k3]
    · cases c3
  · split at c4
    · rename_i f r e
      have es : stA K d.x d.m = f := by unfold stA; rw [e]
      exact ⟨r, by rw [es, e]⟩
    · cases c4
/-! ### the Hook -/
abbrev AlS : Type := AlX × (Bool × List FnW)
def obsS (file : Str) (fa : List Fct) (fn : List DefD) (fi : List InD) (fs : List StD) (K : PySem.W.Frag) : AlS := (obsX file fa fn fi K, (fs.all fun d => d.ok K), fs.map (fun d => fnS K d))
def valS (fn : List DefD) (fi : List InD) (fs : List StD) : AlS := (valX fn fi, true, fs.map StD.val)
def SaysS (file : Str) (fa : List Fct) (fn : List DefD) (fi : List InD) (fs : List StD) (K : PySem.W.Frag) : Prop := obsS file fa fn fi fs K = valS fn fi fs
def obsSG (n : Nat) (file : Str) (fa : List Fct) (fn : List DefD) (fi : List InD) (fs : List StD) (g : Addr → Option Obj) : AlS := obsS file fa fn fi fs (frG g (asR g n))
def hookS (n : Nat) (file : Str) (fa : List Fct) (fn : List DefD) (fi : List InD) (fs : List StD) : PySem.W.Hook where
  α := AlS
  obs := fun s => obsSG n file fa fn fi fs s.heap.get?
  val := fun _ => valS fn fi fs
  says := fun _ h => ∃ K : PySem.W.Frag, K.In h ∧ SaysS file fa fn fi fs K
  of := fun _ _ e => ⟨_, frG_in, e⟩
  keeps := fun _ _ _ ⟨K, hK, c⟩ k => ⟨K, PySem.W.Frag.In.keeps hK k, c⟩
theorem obsSG_eq {n : Nat} {file : Str} {fa : List Fct} {fn : List DefD} {fi : List InD} {fs : List StD} {g : Addr → Option Obj} {s : Shared} (h : ∀ a, g a = s.heap.get? a) : obsSG n file fa fn fi fs g = (hookS n file fa fn fi fs).obs s := by
  have e : g = s.heap.get? := funext h
  rw [e] <;> rfl
section
variable {file : Str} {fa : List Fct} {fn : List DefD} {fi : List InD} {fs : List StD} {K : PySem.W.Frag}
theorem SaysS.x (c : SaysS file fa fn fi fs K) : SaysX file fa fn fi K := congrArg (fun z : AlS => z.1) c
theorem SaysS.st (c : SaysS file fa fn fi fs K) (i : Nat) {d : StD} (h : fs[i]? = some d := by rfl) : fnS K d = d.val ∧ d.ok K = true := by
  have c2 : (fs.all fun d => d.ok K) = true := congrArg (fun z : AlS => z.2.1) c
  have e : fs.map (fun d => fnS K d) = fs.map StD.val := congrArg (fun z : AlS => z.2.2) c
  have e2 : (fs.map fun d => fnS K d)[i]? = (fs.map StD.val)[i]? := by rw [e]
  rw [List.getElem?_map, List.getElem?_map, h] at e2
  exact ⟨Option.some.inj e2, List.all_eq_true.mp c2 d (List.mem_of_getElem? h)⟩
end
end FxH
namespace Fx
open PySem PySem.Spec PyProof.Rows L2
/-- a staticmethod that keeps its promise -/
structure CalS (P : Program) (w : World) (K : PySem.W.Frag) (mg : Str → Option Value) (base : Heap) (CX : CXT) (k : Nat) (C : Addr) (m : Str) (ps : List Str) (sp : Sp) : Prop where
  ex : ∃ p f fd, CSta K C (.type "type") m p f ∧ ClX.CRead K C (.type "type") ∧ Binds K fd ps [] ∧ FnOk P w K mg base CX k f fd ps sp
end Fx
/-! sorted of a tuple of ints (or of a list) -/
namespace Fx
open PySem PySem.Spec PyProof.Rows L2
section
variable {prog : Program} {w : World} {A : Around} {s : Shared} {E : Value → Shared → Prop}
theorem collect_tuple {l : Addr} {vs : List Value} {Q : List Value → Shared → Prop} (hl : s.heap.IsTuple l vs.toArray)
    (h : Q vs { s with heap := (s.heap.push (seqObj "list" #[] 0)).update s.heap.objs.size (Obj.mapSeq (· ++ vs.toArray)) }) (hsz : vs.length ≤ sizeLine) :
    wpAny (model prog w) A (collect (.ref l)) Q E s := by
  obtain ⟨o, ho, hc, n, hd⟩ := id hl
  unfold collect
  refine wpAny_bind (wpAny_runValue (codeAny_builtin F.entry_proto_collect ?_))
  show wpAny _ _ (do again (.builtin "list.__iadd__" ⟨[← newList [], .ref l], []⟩)) _ _ s
  refine wpAny_bind (wpAny_newList (wpAny_pure ⟨Code.quiet_builtin _ (by decide +kernel), codeAny_builtin F.entry_list_iadd ?_⟩))
  show wpAny _ _ (Builtin.List.listExtendWith (.ref s.heap.objs.size) (.ref l) (.ref s.heap.objs.size)) _ _ { s with heap := s.heap.push (seqObj "list" #[] 0) }
  unfold Builtin.List.listExtendWith
  have ho' : (s.heap.push (seqObj "list" #[] 0)).get? l = some o := Heap.get?_push_of_some _ ho
  refine wpAny_bind (wpAny_typeOf (T := "tuple") ⟨o, ho', hc⟩ ?_)
  have ht : (Value.type "tuple" == Value.type "tuple") = true := by rfl
  rw [if_pos (by rw [ht]; simp)]
  refine wpAny_bind (listItems_at ho' hd ?_)
  refine wpAny_bind (listItems_at (xs := #[]) (n := 0) (Heap.get?_push_size _ rfl) rfl ?_)
  rw [if_neg (by simp)]
  refine wpAny_bind (listUpdate_at (xs := #[]) (n := 0) (Heap.get?_push_size _ rfl) rfl ?_ (Nat.zero_le _) (by show (#[] ++ vs.toArray).size ≤ sizeLine + 1; simp only [Array.size_append, List.size_toArray, List.length_nil]; omega))
  refine wpAny_pure ?_
  show wpAny (model prog w) A (do
      let o ← load s.heap.objs.size
      match o.data with
      | .seq xs _ => pure xs.toList
      | _ => unsupported "internal:collect") Q E { s with heap := (s.heap.push (seqObj "list" #[] 0)).update s.heap.objs.size (Obj.mapSeq (· ++ vs.toArray)) }
  refine wpAny_bind (wpAny_load (get?_update_seq (Heap.get?_push_size _ rfl) _) ?_)
  show wpAny _ _ (pure ((#[] : Array Value) ++ vs.toArray).toList) Q E _
  rw [show ((#[] : Array Value) ++ vs.toArray).toList = vs by simp]
  exact wpAny_pure h
open SrtO in
theorem sorted_ordT {l : Addr} {vs : List Value} {ltv : Value → Value → Bool} {Q : Value → Shared → Prop} (O : Swo ltv) (hl : s.heap.IsTuple l vs.toArray) (hz : vs.length ≤ sizeLine)
    (hS : 2 ≤ vs.length → ∀ (h₁ : Heap) (a : Addr), h₁.get? a = some (seqObj "list" vs.toArray 0) → (∀ b o, s.heap.get? b = some o → b ≠ a ∧ h₁.get? b = some o) → SortableO prog w A.in1.in1 { s with heap := h₁ } a vs ltv)
    (h : ∀ out : List Value, Srtd ltv out → Stb ltv out vs → Q (.ref (s.heap.objs.size + 1)) { s with heap := sortedAll s.heap vs out.toArray }) :
    wpAny (model prog w) A (call (.builtin "sorted") [.ref l]) Q E s := by
  refine Calls.call_function_entry kind_sorted plain_sorted entry_sorted (args_sorted1 _) ?_
  unfold Builtin.«sorted»
  refine wpAny_bind (m := checkCount "sorted" 1 1 _) (wpAny_pure ?_)
  refine wpAny_bind (collect_tuple hl ?_ hz)
  refine wpAny_bind (wpAny_newList ?_ hz)
  have hsz : ((s.heap.push (seqObj "list" #[] 0)).update s.heap.objs.size (Obj.mapSeq (· ++ vs.toArray))).objs.size = s.heap.objs.size + 1 := by
    rw [Heap.size_update, size_push']
  have hoL : (((s.heap.push (seqObj "list" #[] 0)).update s.heap.objs.size (Obj.mapSeq (· ++ vs.toArray))).push (seqObj "list" vs.toArray 0)).get? (s.heap.objs.size + 1) = some (seqObj "list" vs.toArray 0) := by
    rw [← hsz]; exact Heap.get?_push_size _ rfl
  have keep : ∀ b o, s.heap.get? b = some o → b ≠ s.heap.objs.size + 1 ∧ (((s.heap.push (seqObj "list" #[] 0)).update s.heap.objs.size (Obj.mapSeq (· ++ vs.toArray))).push (seqObj "list" vs.toArray 0)).get? b = some o := fun b o q => by
    have hlt : b < s.heap.objs.size := Heap.lt_size q
    refine ⟨Nat.ne_of_lt (Nat.lt_succ_of_lt hlt), Heap.get?_push_of_some _ ?_⟩
    rw [Heap.get?_update_ne _ _ _ _ (Nat.ne_of_lt hlt)]
    exact Heap.get?_push_of_some _ q
  show wpAny _ _ _ _ _ { s with heap := ((s.heap.push (seqObj "list" #[] 0)).update s.heap.objs.size (Obj.mapSeq (· ++ vs.toArray))).push (seqObj "list" vs.toArray 0) }
  rw [hsz]
  refine wpAny_bind (wpAny_holding (wpAny_call_entry slot_list_sort ⟨_, hoL, rfl⟩ entry_list_sort (list_sort_ord O hoL hz (fun h2 => hS h2 _ _ hoL keep) fun out hs hb => ⟨_, rfl, ?_⟩) (args_list_sort _)))
  exact wpAny_pure ⟨_, rfl, h out hs hb⟩
end
/-- sorted(xs) of ints, xs a list or a tuple -/
def rSrtQ : List V → Hp → VK → Prop := fun vs H Q => ∃ (a : Addr) (ns : List Int), vs = [V.ref a] ∧ Sq H a (ns.map V.int) ∧
  ∀ (ns' : List Int) (p : Addr), ns'.Perm ns → ns'.Pairwise (· ≤ ·) → H p = none → Q (.ref p) (upd H p (.lst (ns'.map V.int)))
theorem srt_Q {X : Cx} : CallR X (.builtin "sorted") rSrtQ := by
  intro pins s σ H vs us Q I r h
  obtain ⟨a, ns, rfl, hs, q⟩ := h
  rcases hs with hs | hs
  · exact cr_sortedI pins s σ H _ us Q I r ⟨a, ns, rfl, .inl (.inl hs), q⟩
  obtain ⟨its, rv, hl, hz⟩ := I.tuple (xs := ns.map V.int) (.inl (.inl hs))
  rw [Vals.ref1 r]
  have hi := rv.ints
  refine sorted_ordT SrtO.swo_int hl (by rw [← rv.length]; exact hz) (fun h2 h₁ a' _ _ => SrtO.ints_sortable hi h2) fun out h1 h2 => ?_
  obtain ⟨k1, k2, k3⟩ := SrtO.ints_out hi h1 h2
  obtain ⟨ep, he'⟩ := PyProof.Rows.sortedAll_at s.heap its out.toArray
  have hlen : ((out.map SrtO.iv).map V.int).length ≤ sizeLine := by
    rw [List.length_map, k2.length_eq]
    rw [List.length_map] at hz
    exact hz
  exact ⟨.ref _, upd H (s.heap.objs.size + 1) (.lst ((out.map SrtO.iv).map V.int)), I.laid (t' := s.toks) (fun _ _ => PyProof.Rows.sortedAll_old) (Nat.le_succ _) ⟨hlen, out, ep, vals_of_ints k1, he'⟩, rfl, q _ _ k2 k3 (I.hok.fresh (Nat.le_succ _))⟩
end Fx
namespace K15
open PySem PySem.Spec PyProof.Rows L2 Fx

def top (i : Nat) : Stmt := PySem.Challenge.pw_fablemill_k15_trees_moved.main.body.getD i (.Pass ⟨0, 0, 0, 0⟩)
abbrev s_Tree_MU_initU : Stmt := inClass (top 16) 0
abbrev N_Tree_MU_initU : List Str := ["self", "rows", "many", "place", "holder", "marks", "mark", "row", "thing", "found"]
theorem sc_Tree_MU_initU : FnScope N_Tree_MU_initU ["self", "rows"] (defScope s_Tree_MU_initU) := ⟨rfl, rfl, rfl, by decide +kernel, rfl, by decide +kernel, by decide +kernel⟩
theorem bn_Tree_MU_initU : BindQ "__init__" "Tree.__init__" s_Tree_MU_initU ["self", "rows"] := fun _ _ _ _ _ _ us hl => match us, hl with | [_, _], _ => rfl
abbrev s_Tree_M_of : Stmt := inClass (top 16) 1
abbrev N_Tree_M_of : List Str := ["rows", "bad", "tree", "row"]
theorem sc_Tree_M_of : FnScope N_Tree_M_of ["rows"] (defScope s_Tree_M_of) := ⟨rfl, rfl, rfl, by decide +kernel, rfl, by decide +kernel, by decide +kernel⟩
theorem bn_Tree_M_of : BindQ "of" "Tree.of" s_Tree_M_of ["rows"] := fun _ _ _ _ _ _ us hl => match us, hl with | [_], _ => rfl
abbrev s_Tree_M_check_thing : Stmt := inClass (top 16) 2
abbrev N_Tree_M_check_thing : List Str := ["self", "thing"]
theorem sc_Tree_M_check_thing : FnScope N_Tree_M_check_thing ["self", "thing"] (defScope s_Tree_M_check_thing) := ⟨rfl, rfl, rfl, by decide +kernel, rfl, by decide +kernel, by decide +kernel⟩
theorem bn_Tree_M_check_thing : BindQ "check_thing" "Tree.check_thing" s_Tree_M_check_thing ["self", "thing"] := fun _ _ _ _ _ _ us hl => match us, hl with | [_, _], _ => rfl
abbrev s_Tree_M_holder_of : Stmt := inClass (top 16) 3
abbrev N_Tree_M_holder_of : List Str := ["self", "thing"]
theorem sc_Tree_M_holder_of : FnScope N_Tree_M_holder_of ["self", "thing"] (defScope s_Tree_M_holder_of) := ⟨rfl, rfl, rfl, by decide +kernel, rfl, by decide +kernel, by decide +kernel⟩
theorem bn_Tree_M_holder_of : BindQ "holder_of" "Tree.holder_of" s_Tree_M_holder_of ["self", "thing"] := fun _ _ _ _ _ _ us hl => match us, hl with | [_, _], _ => rfl
abbrev s_Tree_M_first_of : Stmt := inClass (top 16) 4
abbrev N_Tree_M_first_of : List Str := ["self", "thing"]
theorem sc_Tree_M_first_of : FnScope N_Tree_M_first_of ["self", "thing"] (defScope s_Tree_M_first_of) := ⟨rfl, rfl, rfl, by decide +kernel, rfl, by decide +kernel, by decide +kernel⟩
theorem bn_Tree_M_first_of : BindQ "first_of" "Tree.first_of" s_Tree_M_first_of ["self", "thing"] := fun _ _ _ _ _ _ us hl => match us, hl with | [_, _], _ => rfl
abbrev s_Tree_M_beside_of : Stmt := inClass (top 16) 5
abbrev N_Tree_M_beside_of : List Str := ["self", "thing"]
theorem sc_Tree_M_beside_of : FnScope N_Tree_M_beside_of ["self", "thing"] (defScope s_Tree_M_beside_of) := ⟨rfl, rfl, rfl, by decide +kernel, rfl, by decide +kernel, by decide +kernel⟩
theorem bn_Tree_M_beside_of : BindQ "beside_of" "Tree.beside_of" s_Tree_M_beside_of ["self", "thing"] := fun _ _ _ _ _ _ us hl => match us, hl with | [_, _], _ => rfl
abbrev s_Tree_M_place_of : Stmt := inClass (top 16) 6
abbrev N_Tree_M_place_of : List Str := ["self", "thing", "at"]
theorem sc_Tree_M_place_of : FnScope N_Tree_M_place_of ["self", "thing"] (defScope s_Tree_M_place_of) := ⟨rfl, rfl, rfl, by decide +kernel, rfl, by decide +kernel, by decide +kernel⟩
theorem bn_Tree_M_place_of : BindQ "place_of" "Tree.place_of" s_Tree_M_place_of ["self", "thing"] := fun _ _ _ _ _ _ us hl => match us, hl with | [_, _], _ => rfl
abbrev s_Tree_M_parts_of : Stmt := inClass (top 16) 7
abbrev N_Tree_M_parts_of : List Str := ["self", "thing", "row", "at"]
theorem sc_Tree_M_parts_of : FnScope N_Tree_M_parts_of ["self", "thing"] (defScope s_Tree_M_parts_of) := ⟨rfl, rfl, rfl, by decide +kernel, rfl, by decide +kernel, by decide +kernel⟩
theorem bn_Tree_M_parts_of : BindQ "parts_of" "Tree.parts_of" s_Tree_M_parts_of ["self", "thing"] := fun _ _ _ _ _ _ us hl => match us, hl with | [_, _], _ => rfl
abbrev s_Tree_M_holds : Stmt := inClass (top 16) 8
abbrev N_Tree_M_holds : List Str := ["self", "thing", "other", "at"]
theorem sc_Tree_M_holds : FnScope N_Tree_M_holds ["self", "thing", "other"] (defScope s_Tree_M_holds) := ⟨rfl, rfl, rfl, by decide +kernel, rfl, by decide +kernel, by decide +kernel⟩
theorem bn_Tree_M_holds : BindQ "holds" "Tree.holds" s_Tree_M_holds ["self", "thing", "other"] := fun _ _ _ _ _ _ us hl => match us, hl with | [_, _, _], _ => rfl
abbrev s_Tree_M_has_mark : Stmt := inClass (top 16) 9
abbrev N_Tree_M_has_mark : List Str := ["self", "thing", "mark"]
theorem sc_Tree_M_has_mark : FnScope N_Tree_M_has_mark ["self", "thing", "mark"] (defScope s_Tree_M_has_mark) := ⟨rfl, rfl, rfl, by decide +kernel, rfl, by decide +kernel, by decide +kernel⟩
theorem bn_Tree_M_has_mark : BindQ "has_mark" "Tree.has_mark" s_Tree_M_has_mark ["self", "thing", "mark"] := fun _ _ _ _ _ _ us hl => match us, hl with | [_, _, _], _ => rfl
abbrev s_Tree_M_give : Stmt := inClass (top 16) 10
abbrev N_Tree_M_give : List Str := ["self", "thing", "mark"]
theorem sc_Tree_M_give : FnScope N_Tree_M_give ["self", "thing", "mark"] (defScope s_Tree_M_give) := ⟨rfl, rfl, rfl, by decide +kernel, rfl, by decide +kernel, by decide +kernel⟩
theorem bn_Tree_M_give : BindQ "give" "Tree.give" s_Tree_M_give ["self", "thing", "mark"] := fun _ _ _ _ _ _ us hl => match us, hl with | [_, _, _], _ => rfl
abbrev s_Tree_M_strip : Stmt := inClass (top 16) 11
abbrev N_Tree_M_strip : List Str := ["self", "thing", "mark"]
theorem sc_Tree_M_strip : FnScope N_Tree_M_strip ["self", "thing", "mark"] (defScope s_Tree_M_strip) := ⟨rfl, rfl, rfl, by decide +kernel, rfl, by decide +kernel, by decide +kernel⟩
theorem bn_Tree_M_strip : BindQ "strip" "Tree.strip" s_Tree_M_strip ["self", "thing", "mark"] := fun _ _ _ _ _ _ us hl => match us, hl with | [_, _, _], _ => rfl
abbrev s_Tree_M_move : Stmt := inClass (top 16) 12
abbrev N_Tree_M_move : List Str := ["self", "thing", "holder", "old", "at"]
theorem sc_Tree_M_move : FnScope N_Tree_M_move ["self", "thing", "holder"] (defScope s_Tree_M_move) := ⟨rfl, rfl, rfl, by decide +kernel, rfl, by decide +kernel, by decide +kernel⟩
theorem bn_Tree_M_move : BindQ "move" "Tree.move" s_Tree_M_move ["self", "thing", "holder"] := fun _ _ _ _ _ _ us hl => match us, hl with | [_, _, _], _ => rfl
abbrev s_Tree_MU_getitemU : Stmt := inClass (top 16) 13
abbrev N_Tree_MU_getitemU : List Str := ["self", "thing"]
theorem sc_Tree_MU_getitemU : FnScope N_Tree_MU_getitemU ["self", "thing"] (defScope s_Tree_MU_getitemU) := ⟨rfl, rfl, rfl, by decide +kernel, rfl, by decide +kernel, by decide +kernel⟩
theorem bn_Tree_MU_getitemU : BindQ "__getitem__" "Tree.__getitem__" s_Tree_MU_getitemU ["self", "thing"] := fun _ _ _ _ _ _ us hl => match us, hl with | [_, _], _ => rfl
abbrev s_Tree_MU_setitemU : Stmt := inClass (top 16) 14
abbrev N_Tree_MU_setitemU : List Str := ["self", "thing", "holder"]
theorem sc_Tree_MU_setitemU : FnScope N_Tree_MU_setitemU ["self", "thing", "holder"] (defScope s_Tree_MU_setitemU) := ⟨rfl, rfl, rfl, by decide +kernel, rfl, by decide +kernel, by decide +kernel⟩
theorem bn_Tree_MU_setitemU : BindQ "__setitem__" "Tree.__setitem__" s_Tree_MU_setitemU ["self", "thing", "holder"] := fun _ _ _ _ _ _ us hl => match us, hl with | [_, _, _], _ => rfl
abbrev s_Tree_MU_lenU : Stmt := inClass (top 16) 15
abbrev N_Tree_MU_lenU : List Str := ["self"]
theorem sc_Tree_MU_lenU : FnScope N_Tree_MU_lenU ["self"] (defScope s_Tree_MU_lenU) := ⟨rfl, rfl, rfl, by decide +kernel, rfl, by decide +kernel, by decide +kernel⟩
theorem bn_Tree_MU_lenU : BindQ "__len__" "Tree.__len__" s_Tree_MU_lenU ["self"] := fun _ _ _ _ _ _ us hl => match us, hl with | [_], _ => rfl
abbrev s_Tree_MU_containsU : Stmt := inClass (top 16) 16
abbrev N_Tree_MU_containsU : List Str := ["self", "thing"]
theorem sc_Tree_MU_containsU : FnScope N_Tree_MU_containsU ["self", "thing"] (defScope s_Tree_MU_containsU) := ⟨rfl, rfl, rfl, by decide +kernel, rfl, by decide +kernel, by decide +kernel⟩
theorem bn_Tree_MU_containsU : BindQ "__contains__" "Tree.__contains__" s_Tree_MU_containsU ["self", "thing"] := fun _ _ _ _ _ _ us hl => match us, hl with | [_, _], _ => rfl
abbrev s_Tree_MU_iterU : Stmt := inClass (top 16) 17
abbrev N_Tree_MU_iterU : List Str := ["self"]
theorem sc_Tree_MU_iterU : FnScope N_Tree_MU_iterU ["self"] (defScope s_Tree_MU_iterU) := ⟨rfl, rfl, rfl, by decide +kernel, rfl, by decide +kernel, by decide +kernel⟩
theorem bn_Tree_MU_iterU : BindQ "__iter__" "Tree.__iter__" s_Tree_MU_iterU ["self"] := fun _ _ _ _ _ _ us hl => match us, hl with | [_], _ => rfl
abbrev s_Tree_M_told : Stmt := inClass (top 16) 18
abbrev N_Tree_M_told : List Str := ["self", "thing"]
theorem sc_Tree_M_told : FnScope N_Tree_M_told ["self"] (defScope s_Tree_M_told) := ⟨rfl, rfl, rfl, by decide +kernel, rfl, by decide +kernel, by decide +kernel⟩
theorem bn_Tree_M_told : BindQ "told" "Tree.told" s_Tree_M_told ["self"] := fun _ _ _ _ _ _ us hl => match us, hl with | [_], _ => rfl
abbrev s_Tree_MU_eqU : Stmt := inClass (top 16) 19
abbrev N_Tree_MU_eqU : List Str := ["self", "other"]
theorem sc_Tree_MU_eqU : FnScope N_Tree_MU_eqU ["self", "other"] (defScope s_Tree_MU_eqU) := ⟨rfl, rfl, rfl, by decide +kernel, rfl, by decide +kernel, by decide +kernel⟩
theorem bn_Tree_MU_eqU : BindQ "__eq__" "Tree.__eq__" s_Tree_MU_eqU ["self", "other"] := fun _ _ _ _ _ _ us hl => match us, hl with | [_, _], _ => rfl
abbrev s_Tree_M_copy : Stmt := inClass (top 16) 20
abbrev N_Tree_M_copy : List Str := ["self"]
theorem sc_Tree_M_copy : FnScope N_Tree_M_copy ["self"] (defScope s_Tree_M_copy) := ⟨rfl, rfl, rfl, by decide +kernel, rfl, by decide +kernel, by decide +kernel⟩
theorem bn_Tree_M_copy : BindQ "copy" "Tree.copy" s_Tree_M_copy ["self"] := fun _ _ _ _ _ _ us hl => match us, hl with | [_], _ => rfl
abbrev s_is_integer : Stmt := top 6
abbrev N_is_integer : List Str := ["thing", "low", "high"]
theorem sc_is_integer : FnScope N_is_integer ["thing", "low", "high"] (defScope s_is_integer) := ⟨rfl, rfl, rfl, by decide +kernel, rfl, by decide +kernel, by decide +kernel⟩
theorem bn_is_integer : BindP "is_integer" s_is_integer ["thing", "low", "high"] := fun _ _ _ _ _ _ us hl => match us, hl with | [_, _, _], _ => rfl
abbrev s_are_marks : Stmt := top 10
abbrev N_are_marks : List Str := ["thing", "most", "place", "mark"]
theorem sc_are_marks : FnScope N_are_marks ["thing", "most"] (defScope s_are_marks) := ⟨rfl, rfl, rfl, by decide +kernel, rfl, by decide +kernel, by decide +kernel⟩
theorem bn_are_marks : BindP "are_marks" s_are_marks ["thing", "most"] := fun _ _ _ _ _ _ us hl => match us, hl with | [_, _], _ => rfl
abbrev s_has_no_place : Stmt := top 11
abbrev N_has_no_place : List Str := ["holders", "thing", "at", "step"]
theorem sc_has_no_place : FnScope N_has_no_place ["holders", "thing"] (defScope s_has_no_place) := ⟨rfl, rfl, rfl, by decide +kernel, rfl, by decide +kernel, by decide +kernel⟩
theorem bn_has_no_place : BindP "has_no_place" s_has_no_place ["holders", "thing"] := fun _ _ _ _ _ _ us hl => match us, hl with | [_, _], _ => rfl
abbrev s_comes_back : Stmt := top 12
abbrev N_comes_back : List Str := ["holders", "thing", "at", "step"]
theorem sc_comes_back : FnScope N_comes_back ["holders", "thing"] (defScope s_comes_back) := ⟨rfl, rfl, rfl, by decide +kernel, rfl, by decide +kernel, by decide +kernel⟩
theorem bn_comes_back : BindP "comes_back" s_comes_back ["holders", "thing"] := fun _ _ _ _ _ _ us hl => match us, hl with | [_, _], _ => rfl
abbrev s_is_row_of_parts : Stmt := top 13
abbrev N_is_row_of_parts : List Str := ["holders", "besides", "first", "thing", "seen", "at", "one"]
theorem sc_is_row_of_parts : FnScope N_is_row_of_parts ["holders", "besides", "first", "thing"] (defScope s_is_row_of_parts) := ⟨rfl, rfl, rfl, by decide +kernel, rfl, by decide +kernel, by decide +kernel⟩
theorem bn_is_row_of_parts : BindP "is_row_of_parts" s_is_row_of_parts ["holders", "besides", "first", "thing"] := fun _ _ _ _ _ _ us hl => match us, hl with | [_, _, _, _], _ => rfl
abbrev s_is_row : Stmt := top 14
abbrev N_is_row : List Str := ["row", "most", "many"]
theorem sc_is_row : FnScope N_is_row ["row", "most", "many"] (defScope s_is_row) := ⟨rfl, rfl, rfl, by decide +kernel, rfl, by decide +kernel, by decide +kernel⟩
theorem bn_is_row : BindP "is_row" s_is_row ["row", "most", "many"] := fun _ _ _ _ _ _ us hl => match us, hl with | [_, _, _], _ => rfl
abbrev s_check_rows : Stmt := top 15
abbrev N_check_rows : List Str := ["rows", "most", "many", "place", "row", "holders", "besides"]
theorem sc_check_rows : FnScope N_check_rows ["rows", "most"] (defScope s_check_rows) := ⟨rfl, rfl, rfl, by decide +kernel, rfl, by decide +kernel, by decide +kernel⟩
theorem bn_check_rows : BindP "check_rows" s_check_rows ["rows", "most"] := fun _ _ _ _ _ _ us hl => match us, hl with | [_, _], _ => rfl
abbrev s__law_bag : Stmt := top 18
abbrev N__law_bag : List Str := ["_law_script", "_law_mixed", "_law_cell"]
theorem sc__law_bag : FnScope N__law_bag ["_law_script"] (defScope s__law_bag) := ⟨rfl, rfl, rfl, by decide +kernel, rfl, by decide +kernel, by decide +kernel⟩
theorem bn__law_bag : BindP "_law_bag" s__law_bag ["_law_script"] := fun _ _ _ _ _ _ us hl => match us, hl with | [_], _ => rfl
abbrev s__law_pick : Stmt := top 19
abbrev N__law_pick : List Str := ["_law_bag_here", "_law_many", "_law_number", "_law_cell"]
theorem sc__law_pick : FnScope N__law_pick ["_law_bag_here", "_law_many"] (defScope s__law_pick) := ⟨rfl, rfl, rfl, by decide +kernel, rfl, by decide +kernel, by decide +kernel⟩
theorem bn__law_pick : BindP "_law_pick" s__law_pick ["_law_bag_here", "_law_many"] := fun _ _ _ _ _ _ us hl => match us, hl with | [_, _], _ => rfl
abbrev s__law_choice : Stmt := top 20
abbrev N__law_choice : List Str := ["_law_bag_here", "_law_things"]
theorem sc__law_choice : FnScope N__law_choice ["_law_bag_here", "_law_things"] (defScope s__law_choice) := ⟨rfl, rfl, rfl, by decide +kernel, rfl, by decide +kernel, by decide +kernel⟩
theorem bn__law_choice : BindP "_law_choice" s__law_choice ["_law_bag_here", "_law_things"] := fun _ _ _ _ _ _ us hl => match us, hl with | [_, _], _ => rfl
abbrev s__law_one_in : Stmt := top 21
abbrev N__law_one_in : List Str := ["_law_bag_here", "_law_many"]
theorem sc__law_one_in : FnScope N__law_one_in ["_law_bag_here", "_law_many"] (defScope s__law_one_in) := ⟨rfl, rfl, rfl, by decide +kernel, rfl, by decide +kernel, by decide +kernel⟩
theorem bn__law_one_in : BindP "_law_one_in" s__law_one_in ["_law_bag_here", "_law_many"] := fun _ _ _ _ _ _ us hl => match us, hl with | [_, _], _ => rfl
abbrev s__law_shuffled : Stmt := top 22
abbrev N__law_shuffled : List Str := ["_law_bag_here", "_law_things", "_law_rest", "_law_row", "_law_k"]
theorem sc__law_shuffled : FnScope N__law_shuffled ["_law_bag_here", "_law_things"] (defScope s__law_shuffled) := ⟨rfl, rfl, rfl, by decide +kernel, rfl, by decide +kernel, by decide +kernel⟩
theorem bn__law_shuffled : BindP "_law_shuffled" s__law_shuffled ["_law_bag_here", "_law_things"] := fun _ _ _ _ _ _ us hl => match us, hl with | [_, _], _ => rfl
abbrev s__law_once : Stmt := top 23
abbrev N__law_once : List Str := ["_law_row", "_law_found", "_law_one"]
theorem sc__law_once : FnScope N__law_once ["_law_row"] (defScope s__law_once) := ⟨rfl, rfl, rfl, by decide +kernel, rfl, by decide +kernel, by decide +kernel⟩
theorem bn__law_once : BindP "_law_once" s__law_once ["_law_row"] := fun _ _ _ _ _ _ us hl => match us, hl with | [_], _ => rfl
abbrev s__law_holders : Stmt := top 24
abbrev N__law_holders : List Str := ["_law_bag_here", "_law_many", "_law_order", "_law_chain", "_law_holders_here", "_law_k"]
theorem sc__law_holders : FnScope N__law_holders ["_law_bag_here", "_law_many"] (defScope s__law_holders) := ⟨rfl, rfl, rfl, by decide +kernel, rfl, by decide +kernel, by decide +kernel⟩
theorem bn__law_holders : BindP "_law_holders" s__law_holders ["_law_bag_here", "_law_many"] := fun _ _ _ _ _ _ us hl => match us, hl with | [_, _], _ => rfl
abbrev s__law_pairs : Stmt := top 25
abbrev N__law_pairs : List Str := ["_law_bag_here", "_law_many", "_law_holders_here", "_law_pairs_here", "_law_thing", "_law_marks", "_law_step"]
theorem sc__law_pairs : FnScope N__law_pairs ["_law_bag_here", "_law_many"] (defScope s__law_pairs) := ⟨rfl, rfl, rfl, by decide +kernel, rfl, by decide +kernel, by decide +kernel⟩
theorem bn__law_pairs : BindP "_law_pairs" s__law_pairs ["_law_bag_here", "_law_many"] := fun _ _ _ _ _ _ us hl => match us, hl with | [_, _], _ => rfl
abbrev s__law_model : Stmt := top 26
abbrev N__law_model : List Str := ["_law_pairs_here", "_law_many", "_law_thing", "_law_parts_here", "_law_holders_here", "_law_marks", "_law_pair"]
theorem sc__law_model : FnScope N__law_model ["_law_pairs_here"] (defScope s__law_model) := ⟨rfl, rfl, rfl, by decide +kernel, rfl, by decide +kernel, by decide +kernel⟩
theorem bn__law_model : BindP "_law_model" s__law_model ["_law_pairs_here"] := fun _ _ _ _ _ _ us hl => match us, hl with | [_], _ => rfl
abbrev s__law_twin : Stmt := top 27
abbrev N__law_twin : List Str := ["_law_model_here", "_law_parts_here", "_law_marks", "_law_row"]
theorem sc__law_twin : FnScope N__law_twin ["_law_model_here"] (defScope s__law_twin) := ⟨rfl, rfl, rfl, by decide +kernel, rfl, by decide +kernel, by decide +kernel⟩
theorem bn__law_twin : BindP "_law_twin" s__law_twin ["_law_model_here"] := fun _ _ _ _ _ _ us hl => match us, hl with | [_], _ => rfl
abbrev s__law_inside : Stmt := top 28
abbrev N__law_inside : List Str := ["_law_model_here", "_law_thing", "_law_other", "_law_at", "_law_step"]
theorem sc__law_inside : FnScope N__law_inside ["_law_model_here", "_law_thing", "_law_other"] (defScope s__law_inside) := ⟨rfl, rfl, rfl, by decide +kernel, rfl, by decide +kernel, by decide +kernel⟩
theorem bn__law_inside : BindP "_law_inside" s__law_inside ["_law_model_here", "_law_thing", "_law_other"] := fun _ _ _ _ _ _ us hl => match us, hl with | [_, _, _], _ => rfl
abbrev s__law_moved : Stmt := top 29
abbrev N__law_moved : List Str := ["_law_model_here", "_law_thing", "_law_holder"]
theorem sc__law_moved : FnScope N__law_moved ["_law_model_here", "_law_thing", "_law_holder"] (defScope s__law_moved) := ⟨rfl, rfl, rfl, by decide +kernel, rfl, by decide +kernel, by decide +kernel⟩
theorem bn__law_moved : BindP "_law_moved" s__law_moved ["_law_model_here", "_law_thing", "_law_holder"] := fun _ _ _ _ _ _ us hl => match us, hl with | [_, _, _], _ => rfl
abbrev s__law_marked : Stmt := top 30
abbrev N__law_marked : List Str := ["_law_model_here", "_law_thing", "_law_mark", "_law_given", "_law_rest", "_law_one"]
theorem sc__law_marked : FnScope N__law_marked ["_law_model_here", "_law_thing", "_law_mark", "_law_given"] (defScope s__law_marked) := ⟨rfl, rfl, rfl, by decide +kernel, rfl, by decide +kernel, by decide +kernel⟩
theorem bn__law_marked : BindP "_law_marked" s__law_marked ["_law_model_here", "_law_thing", "_law_mark", "_law_given"] := fun _ _ _ _ _ _ us hl => match us, hl with | [_, _, _, _], _ => rfl
abbrev s__law_beside : Stmt := top 31
abbrev N__law_beside : List Str := ["_law_model_here", "_law_thing", "_law_holder", "_law_row"]
theorem sc__law_beside : FnScope N__law_beside ["_law_model_here", "_law_thing"] (defScope s__law_beside) := ⟨rfl, rfl, rfl, by decide +kernel, rfl, by decide +kernel, by decide +kernel⟩
theorem bn__law_beside : BindP "_law_beside" s__law_beside ["_law_model_here", "_law_thing"] := fun _ _ _ _ _ _ us hl => match us, hl with | [_, _], _ => rfl
abbrev s__law_parts : Stmt := top 32
abbrev N__law_parts : List Str := ["_law_model_here", "_law_thing"]
theorem sc__law_parts : FnScope N__law_parts ["_law_model_here", "_law_thing"] (defScope s__law_parts) := ⟨rfl, rfl, rfl, by decide +kernel, rfl, by decide +kernel, by decide +kernel⟩
theorem bn__law_parts : BindP "_law_parts" s__law_parts ["_law_model_here", "_law_thing"] := fun _ _ _ _ _ _ us hl => match us, hl with | [_, _], _ => rfl
abbrev s__law_place : Stmt := top 33
abbrev N__law_place : List Str := ["_law_model_here", "_law_thing", "_law_at", "_law_step"]
theorem sc__law_place : FnScope N__law_place ["_law_model_here", "_law_thing"] (defScope s__law_place) := ⟨rfl, rfl, rfl, by decide +kernel, rfl, by decide +kernel, by decide +kernel⟩
theorem bn__law_place : BindP "_law_place" s__law_place ["_law_model_here", "_law_thing"] := fun _ _ _ _ _ _ us hl => match us, hl with | [_, _], _ => rfl
abbrev s__law_told : Stmt := top 34
abbrev N__law_told : List Str := ["_law_model_here", "_law_row", "_law_thing", "_law_first"]
theorem sc__law_told : FnScope N__law_told ["_law_model_here"] (defScope s__law_told) := ⟨rfl, rfl, rfl, by decide +kernel, rfl, by decide +kernel, by decide +kernel⟩
theorem bn__law_told : BindP "_law_told" s__law_told ["_law_model_here"] := fun _ _ _ _ _ _ us hl => match us, hl with | [_], _ => rfl
abbrev s__law_same : Stmt := top 35
abbrev N__law_same : List Str := ["_law_bag_here", "_law_tree", "_law_model_here", "_law_many", "_law_thing", "_law_parts_here", "_law_holder", "_law_due", "_law_actual", "_law_other", "_law_mark"]
theorem sc__law_same : FnScope N__law_same ["_law_bag_here", "_law_tree", "_law_model_here"] (defScope s__law_same) := ⟨rfl, rfl, rfl, by decide +kernel, rfl, by decide +kernel, by decide +kernel⟩
theorem bn__law_same : BindP "_law_same" s__law_same ["_law_bag_here", "_law_tree", "_law_model_here"] := fun _ _ _ _ _ _ us hl => match us, hl with | [_, _, _], _ => rfl
abbrev s__law_call : Stmt := top 36
abbrev N__law_call : List Str := ["_law_tree", "_law_way", "_law_one", "_law_two", "e"]
theorem sc__law_call : FnScope N__law_call ["_law_tree", "_law_way", "_law_one", "_law_two"] (defScope s__law_call) := ⟨rfl, rfl, rfl, by decide +kernel, rfl, by decide +kernel, by decide +kernel⟩
theorem bn__law_call : BindP "_law_call" s__law_call ["_law_tree", "_law_way", "_law_one", "_law_two"] := fun _ _ _ _ _ _ us hl => match us, hl with | [_, _, _, _], _ => rfl
abbrev s__law_odd : Stmt := top 37
abbrev N__law_odd : List Str := ["_law_bag_here", "_law_many", "_law_far"]
theorem sc__law_odd : FnScope N__law_odd ["_law_bag_here", "_law_many"] (defScope s__law_odd) := ⟨rfl, rfl, rfl, by decide +kernel, rfl, by decide +kernel, by decide +kernel⟩
theorem bn__law_odd : BindP "_law_odd" s__law_odd ["_law_bag_here", "_law_many"] := fun _ _ _ _ _ _ us hl => match us, hl with | [_, _], _ => rfl
abbrev s__law_refused : Stmt := top 38
abbrev N__law_refused : List Str := ["_law_bag_here", "_law_tree", "_law_many", "_law_way", "_law_bad", "_law_good", "_law_mark", "_law_worse"]
theorem sc__law_refused : FnScope N__law_refused ["_law_bag_here", "_law_tree", "_law_many"] (defScope s__law_refused) := ⟨rfl, rfl, rfl, by decide +kernel, rfl, by decide +kernel, by decide +kernel⟩
theorem bn__law_refused : BindP "_law_refused" s__law_refused ["_law_bag_here", "_law_tree", "_law_many"] := fun _ _ _ _ _ _ us hl => match us, hl with | [_, _, _], _ => rfl
abbrev s__law_deed : Stmt := top 39
abbrev N__law_deed : List Str := ["_law_bag_here", "_law_tree", "_law_model_here", "_law_many", "_law_thing", "_law_way", "_law_holder", "_law_mark"]
theorem sc__law_deed : FnScope N__law_deed ["_law_bag_here", "_law_tree", "_law_model_here"] (defScope s__law_deed) := ⟨rfl, rfl, rfl, by decide +kernel, rfl, by decide +kernel, by decide +kernel⟩
theorem bn__law_deed : BindP "_law_deed" s__law_deed ["_law_bag_here", "_law_tree", "_law_model_here"] := fun _ _ _ _ _ _ us hl => match us, hl with | [_, _, _], _ => rfl
abbrev s_law : Stmt := top 40
abbrev N_law : List Str := ["_law_script", "_law_bag_here", "_law_many", "_law_pairs_here", "_law_given", "_law_trees", "_law_models", "_law_k", "_law_which", "_law_tree"]
theorem sc_law : FnScope N_law ["_law_script"] (defScope s_law) := ⟨rfl, rfl, rfl, by decide +kernel, rfl, by decide +kernel, by decide +kernel⟩
theorem bn_law : BindP "law" s_law ["_law_script"] := fun _ _ _ _ _ _ us hl => match us, hl with | [_], _ => rfl
structure Tx (P : Program) (K : PySem.W.Frag) (mg : Str → Option Value) : Prop where
  b_all : mg "all" = none
  b_bool : mg "bool" = none
  b_enumerate : mg "enumerate" = none
  b_int : mg "int" = none
  b_isinstance : mg "isinstance" = none
  b_iter : mg "iter" = none
  b_len : mg "len" = none
  b_list : mg "list" = none
  b_range : mg "range" = none
  b_repr : mg "repr" = none
  b_sorted : mg "sorted" = none
  b_tuple : mg "tuple" = none
  b_super : mg "super" = none
  c_MOST_MARKS : Cst mg "MOST_MARKS" (.int 32)
  c_MOST_THINGS : Cst mg "MOST_THINGS" (.int 60)
  g_BadMark : mg "BadMark" = some (.ref (He.ga K "BadMark"))
  x_BadMark : XC K P "BadMark" "mark" (He.ga K "BadMark")
  e_BadMark : ExcC K (He.ga K "BadMark")
  g_BadTree : mg "BadTree" = some (.ref (He.ga K "BadTree"))
  x_BadTree : XC K P "BadTree" "thing" (He.ga K "BadTree")
  e_BadTree : ExcC K (He.ga K "BadTree")
  g_FableError : mg "FableError" = some (.ref (He.ga K "FableError"))
  g_NoThing : mg "NoThing" = some (.ref (He.ga K "NoThing"))
  x_NoThing : XC K P "NoThing" "thing" (He.ga K "NoThing")
  e_NoThing : ExcC K (He.ga K "NoThing")
  g_Tree : mg "Tree" = some (.ref (He.ga K "Tree"))
  cl_Tree : Cls K (He.ga K "Tree")
  n_Tree_besides : NoAttr K (He.ga K "Tree") "besides"
  n_Tree_firsts : NoAttr K (He.ga K "Tree") "firsts"
  n_Tree_holders : NoAttr K (He.ga K "Tree") "holders"
  n_Tree_mark_rows : NoAttr K (He.ga K "Tree") "mark_rows"
  n_Tree_numbers_now : NoAttr K (He.ga K "Tree") "numbers_now"
  ix_Tree : ixB K (He.ga K "Tree") = true
  m_NT : PySem.W.exmOne K (.ref (He.ga K "NoThing")) (.ref (He.ga K "NoThing")) = some true
  m_BM : PySem.W.exmOne K (.ref (He.ga K "BadMark")) (.ref (He.ga K "BadMark")) = some true
  m_BN : PySem.W.exmOne K (.ref (He.ga K "BadMark")) (.ref (He.ga K "NoThing")) = some false
  k_NF : PySem.W.kitOne K (.ref (He.ga K "NoThing")) (.ref (He.ga K "FableError")) = some true
  k_NB : PySem.W.kitOne K (.ref (He.ga K "NoThing")) (.ref (He.ga K "BadMark")) = some false
  k_BF : PySem.W.kitOne K (.ref (He.ga K "BadMark")) (.ref (He.ga K "FableError")) = some true
  k_BN : PySem.W.kitOne K (.ref (He.ga K "BadMark")) (.ref (He.ga K "NoThing")) = some false
  i_Tree : insB K (He.ga K "Tree") = true
  ns_Tree : PySem.W.noSeq K (He.ga K "Tree") = true
theorem new_s {H H' : Hp} {p : Addr} {o : HO} (n : H p = none) (e : upd H p o = H') : Same H H' := e ▸ same_new n
theorem new_h {H H' : Hp} {p : Addr} {o : HO} (e : upd H p o = H') : H' p = some o := e ▸ upd_same
theorem tyL {K : PySem.W.Frag} {H : Hp} {p : Addr} {xs : List V} (h : H p = some (.lst xs)) : tyV K "list" (.ref p) H := .inl ⟨rfl, xs, .inl (.inl h)⟩
theorem Same.put {H H1 : Hp} {D : Addr} {o : HO} (x : Same H H1) (hD : H D = none) : Same H (upd H1 D o) := fun a o' h => by
  rw [upd_ne (ne_of_none h hD)]
  exact x a o' h
theorem none_ne {H : Hp} {a b : Addr} {o : HO} (h : H a = some o) (hb : H b = none) : a ≠ b := ne_of_none h hb
theorem cutV_lo (xs : List V) (n : Nat) : cutV xs (some (n : Int)) none = xs.drop n := by
  unfold cutV
  rw [HT.sIx_nat, HT.sIx_none]
  by_cases h : n ≤ xs.length
  · rw [Nat.min_eq_left h, List.take_of_length_le (by rw [List.length_drop]; omega)]
  · rw [Nat.min_eq_right (by omega), List.drop_of_length_le (by omega : xs.length ≤ n), List.drop_length]
    simp
theorem cutV_hi (xs : List V) (n : Nat) : cutV xs none (some (n : Int)) = xs.take n := by
  unfold cutV
  rw [HT.sIx_nat, HT.sIx_none, List.drop_zero, Nat.sub_zero]
  by_cases h : n ≤ xs.length
  · rw [Nat.min_eq_left h]
  · rw [Nat.min_eq_right (by omega), List.take_of_length_le (by omega : xs.length ≤ n), List.take_length]
theorem cutV_two (xs : List V) (a b : Nat) : cutV xs (some (a : Int)) (some (b : Int)) = (xs.drop a).take (b - a) := by
  unfold cutV
  rw [HT.sIx_nat, HT.sIx_nat]
  by_cases h : a ≤ xs.length
  · rw [Nat.min_eq_left h]
    by_cases h2 : b ≤ xs.length
    · rw [Nat.min_eq_left h2]
    · rw [Nat.min_eq_right (by omega), List.take_of_length_le (by rw [List.length_drop]; omega), List.take_of_length_le (by rw [List.length_drop]; omega)]
  · rw [Nat.min_eq_right (by omega : xs.length ≤ a), List.drop_of_length_le (by omega : xs.length ≤ a), List.drop_length]
    simp
theorem atI_ok {xs : List Int} {a : Int} (h0 : 0 ≤ a) (h : a < ((xs.map V.int).length : Nat)) : ∃ n, atI (xs.map V.int) a = some (.int n) := by
  rw [List.length_map] at h
  have e : ixN (xs.map V.int).length a = some a.toNat := by
    unfold ixN
    rw [if_pos h0, if_pos (by rw [List.length_map]; exact h)]
  unfold atI
  rw [e]
  have hl : a.toNat < xs.length := by omega
  exact ⟨xs[a.toNat], by simp [hl]⟩
theorem atI_get {α : Type} {xs : List α} {i : Nat} {v : α} (h : xs[i]? = some v) : atI xs (i : Int) = some v := by
  have hl := (List.getElem?_eq_some_iff.mp h).1
  have e : ixN xs.length (i : Int) = some i := by
    unfold ixN
    rw [if_pos (by omega), if_pos (by omega)]
    rfl
  unfold atI
  rw [e]
  exact h
theorem atI_last {α : Type} {xs : List α} {y : α} : atI (xs ++ [y]) (-1) = some y := by
  have e : ixN (xs ++ [y]).length (-1) = some xs.length := by
    unfold ixN
    rw [if_neg (by decide), List.length_append, List.length_singleton, if_pos (by omega)]
    congr 1
    omega
  unfold atI
  rw [e]
  simp
theorem ixN_last {n : Nat} : ixN (n + 1) (-1) = some n := by
  unfold ixN
  rw [if_neg (by decide), if_pos (by omega)]
  congr 1
  omega
theorem ixN_nat {n i : Nat} (h : i < n) : ixN n (i : Int) = some i := by
  unfold ixN
  rw [if_pos (by omega), if_pos (by omega)]
  rfl
theorem mapI_get {ns : List Int} {i : Nat} (h : i < ns.length) : (ns.map V.int)[i]? = some (.int ns[i]) := by simp [h]
theorem mapI_some {ns : List Int} {i : Nat} {x : V} (h : (ns.map V.int)[i]? = some x) : ∃ n, x = V.int n ∧ ns[i]? = some n := by
  rw [List.getElem?_map] at h
  cases e : ns[i]? with
  | none => rw [e] at h; cases h
  | some z => rw [e] at h; exact ⟨z, (Option.some.inj h).symm, rfl⟩
theorem atI_mem {α : Type} {xs : List α} {a : Int} (h0 : 0 ≤ a) (h : a < (xs.length : Nat)) : ∃ c, atI xs a = some c ∧ c ∈ xs := by
  have e : ixN xs.length a = some a.toNat := by
    unfold ixN
    rw [if_pos h0, if_pos h]
  unfold atI
  rw [e]
  have hl : a.toNat < xs.length := by omega
  exact ⟨xs[a.toNat], by simp [hl], List.getElem_mem hl⟩
abbrev mi (l : List Int) : List V := l.map V.int
theorem mi_app (a b : List Int) : mi (a ++ b) = mi a ++ mi b := List.map_append
theorem mi_len (a : List Int) : (mi a).length = a.length := List.length_map ..
theorem mi_take (a : List Int) (n : Nat) : (mi a).take n = mi (a.take n) := by unfold mi; rw [List.map_take]
theorem mi_drop (a : List Int) (n : Nat) : (mi a).drop n = mi (a.drop n) := by unfold mi; rw [List.map_drop]
theorem tyv_same {H H' : Hp} {v : V} {t : String} (s : Same H H') (h : tyv H v = some t) : tyv H' v = some t := by
  cases v with
  | ref a =>
    unfold tyv at h ⊢
    dsimp only at h ⊢
    cases e : H a with
    | none => rw [e] at h; cases h
    | some o => rw [e] at h; rw [s a o e]; exact h
  | _ => exact h
theorem tyv_kp {b : Addr} {H H' : Hp} {v : V} {t : String} (B : Bag H b) (k : Kp b H H') (h : tyv H v = some t) : tyv H' v = some t := by
  cases v with
  | ref a =>
    by_cases e : a = b
    · obtain ⟨kvs, h1⟩ := B.some
      obtain ⟨kvs', h2⟩ := k.bag.some
      unfold tyv at h ⊢
      dsimp only at h ⊢
      rw [e, h1] at h
      rw [e, h2]
      exact h
    · unfold tyv at h ⊢
      dsimp only at h ⊢
      cases q : H a with
      | none => rw [q] at h; cases h
      | some o => rw [q] at h; rw [k.keep a o e q]; exact h
  | _ => exact h
/-- all but the object at x is kept -/
def Kx (x : Addr) (H H' : Hp) : Prop := ∀ a o, a ≠ x → H a = some o → H' a = some o
theorem Kx.trans {x : Addr} {H H1 H2 : Hp} (a : Kx x H H1) (b : Kx x H1 H2) : Kx x H H2 := fun c o n h => b c o n (a c o n h)
theorem Kx.of {x : Addr} {H H1 : Hp} (s : Same H H1) : Kx x H H1 := fun a o _ h => s a o h
theorem Rd.kx {x : Addr} {H H' : Hp} {C dx : Addr} {fs : List (Str × V)} {a : Addr} {u : HO} (k : Kx x H H') (hx : H x = some (.ins C dx fs)) (hu : ∀ C dx fs, u ≠ .ins C dx fs) (h : L2.Rd H a u) : L2.Rd H' a u := by
  rcases h with h | ⟨o, h⟩
  · exact .inl (k a _ (ne_of h hx fun e => hu _ _ _ e) h)
  · exact .inr ⟨o, k a _ (ne_of h hx fun e => by cases e) h⟩
def SqA (K : PySem.W.Frag) (H : Hp) (a : Addr) (xs : List V) : Prop := SqL K H a xs ∨ SqT K H a xs
theorem SqA.same {K : PySem.W.Frag} {H H' : Hp} {a : Addr} {xs : List V} (h : SqA K H a xs) (s : Same H H') : SqA K H' a xs := by
  rcases h with ((h | ⟨o, h⟩) | h) | ((h | ⟨o, h⟩) | h)
  · exact .inl (.inl (.inl (s _ _ h)))
  · exact .inl (.inl (.inr ⟨o, s _ _ h⟩))
  · exact .inl (.inr h)
  · exact .inr (.inl (.inl (s _ _ h)))
  · exact .inr (.inl (.inr ⟨o, s _ _ h⟩))
  · exact .inr (.inr h)
theorem forA {K : PySem.W.Frag} {x : Addr} {C dx : Addr} {fs : List (Str × V)} {a : Addr} {xs : List V} {j : Nat} {g : TG} {tb : TS} {D : Ends} {σ : L2.St} {Hb H : Hp} (hx : Hb x = some (.ins C dx fs)) (hv : σ[j]? = some (some (.ref a))) (hq : SqA K Hb a xs) (Pv : Nat → L2.St → Hp → Prop) (h0 : Pv 0 σ H) (hS : ∀ i σ H', Pv i σ H' → Kx x Hb H')
    (hs : ∀ i y σ H, xs[i]? = some y → Pv i σ H → g y σ H fun σ2 H2 => tb { D with nx := Pv (i + 1), ct := Pv (i + 1), bk := D.nx } σ2 H2) (hd : ∀ σ H, Pv xs.length σ H → D.nx σ H) : tFor (iQ K (tVar j)) g tb D σ H := by
  rcases hq with hq | hq
  · have kL : ∀ i σ H', Pv i σ H' → SqL K H' a xs := fun i σ H' p => by
      rcases hq with hq | hq
      · exact .inl (Rd.kx (hS i σ H' p) hx (fun _ _ _ e => by cases e) hq)
      · exact .inr hq
    exact .inl ⟨_, hv, a, rfl, ⟨_, kL _ _ _ h0⟩, for_list (K := K) (a := a) (xs := xs) Pv h0 (fun i σ H' _ p => kL i σ H' p) hs hd⟩
  · have kT : ∀ i σ H', Pv i σ H' → SqT K H' a xs := fun i σ H' p => by
      rcases hq with hq | hq
      · exact .inl (Rd.kx (hS i σ H' p) hx (fun _ _ _ e => by cases e) hq)
      · exact .inr hq
    exact .inr ⟨_, hv, a, rfl, ⟨_, kT _ _ _ h0⟩, for_tup (K := K) (a := a) (xs := xs) Pv h0 (fun i σ H' _ p => kT i σ H' p) hs hd⟩
theorem Kx.free {x d : Addr} {H H' : Hp} {o : HO} (k : Kx x H H') (hx : H' x = some o) (h : H' d = none) : H d = none := by
  cases q : H d with
  | none => rfl
  | some u =>
    by_cases e : d = x
    · rw [e, hx] at h
      cases h
    · rw [k d u e q] at h
      cases h
theorem tyv_kx {x : Addr} {H H' : Hp} {C dx : Addr} {fs : List (Str × V)} {v : V} {t : String} (k : Kx x H H') (hx : H x = some (.ins C dx fs)) (h : tyv H v = some t) : tyv H' v = some t := by
  cases v with
  | ref a =>
    by_cases e : a = x
    · unfold tyv at h
      dsimp only at h
      rw [e, hx] at h
      cases h
    · unfold tyv at h ⊢
      dsimp only at h ⊢
      cases q : H a with
      | none => rw [q] at h; cases h
      | some o => rw [q] at h; rw [k a o e q]; exact h
  | _ => exact h
theorem nd_len : ∀ {a b : List Str}, a.Nodup → (∀ z ∈ a, z ∈ b) → a.length ≤ b.length
  | [], _, _, _ => Nat.zero_le _
  | x :: a, b, nd, h => by
    have hx := h x List.mem_cons_self
    have := nd_len (a := a) (b := b.erase x) (List.nodup_cons.mp nd).2 fun z hz => (List.mem_erase_of_ne (fun (e : z = x) => (List.nodup_cons.mp nd).1 (e ▸ hz))).mpr (h z (List.mem_cons_of_mem _ hz))
    rw [List.length_erase_of_mem hx] at this
    have : 0 < b.length := List.length_pos_of_mem hx
    rw [List.length_cons]
    omega
/-! ### trees -/
structure Tr where
  hol : List Nat
  bes : List Nat
  fir : List Nat
  mks : List (List Nat)
def Tr.n (T : Tr) : Nat := T.hol.length - 1
structure TrO where
  hol : Addr
  mr : Addr
  bes : Addr
  fir : Addr
  num : Addr
  ds : List Addr
abbrev ni (l : List Nat) : List V := l.map fun n => V.int (n : Nat)
def mkv (l : List Nat) : List (Key × V) := l.map fun m => (.inl ((m : Nat) : Int), .bl true)
def trF (A : TrO) : List (Str × V) := [("holders", .ref A.hol), ("mark_rows", .ref A.mr), ("besides", .ref A.bes), ("firsts", .ref A.fir), ("numbers_now", .ref A.num)]
structure TreeAt (K : PySem.W.Frag) (H : Hp) (x : Addr) (A : TrO) (T : Tr) : Prop where
  ins : ∃ dx, H x = some (.ins (He.ga K "Tree") dx (trF A))
  hol : H A.hol = some (.lst (ni T.hol))
  bes : H A.bes = some (.lst (ni T.bes))
  fir : H A.fir = some (.lst (ni T.fir))
  num : H A.num = some (.lst (ni (List.range' 1 T.n)))
  mr : H A.mr = some (.lst (A.ds.map V.ref))
  dl : A.ds.length = T.mks.length
  ds : ∀ (i : Nat) (d : Addr) (l : List Nat), A.ds[i]? = some d → T.mks[i]? = some l → H d = some (.dK (mkv l))
  nd : A.ds.Nodup
  ne : [A.hol, A.bes, A.fir, A.num, A.mr].Nodup
theorem TreeAt.same {K : PySem.W.Frag} {H H' : Hp} {x : Addr} {A : TrO} {T : Tr} (h : TreeAt K H x A T) (s : Same H H') : TreeAt K H' x A T where
  ins := let ⟨dx, h⟩ := h.ins; ⟨dx, s _ _ h⟩
  hol := s _ _ h.hol
  bes := s _ _ h.bes
  fir := s _ _ h.fir
  num := s _ _ h.num
  mr := s _ _ h.mr
  dl := h.dl
  ds := fun i d l e1 e2 => s _ _ (h.ds i d l e1 e2)
  nd := h.nd
  ne := h.ne
/-- the sizes and bounds of a tree's lists -/
structure TrOk (T : Tr) : Prop where
  n1 : 1 ≤ T.n
  n60 : T.n ≤ 60
  lh : T.hol.length = T.n + 1
  lb : T.bes.length = T.n + 1
  lf : T.fir.length = T.n + 1
  lm : T.mks.length = T.n + 1
  vh : ∀ v ∈ T.hol, v ≤ T.n
  vb : ∀ v ∈ T.bes, v ≤ T.n
  vf : ∀ v ∈ T.fir, v ≤ T.n
  vm : ∀ l ∈ T.mks, l.Nodup ∧ ∀ m ∈ l, m < 32
theorem ni_get {l : List Nat} {i : Nat} (h : i < l.length) : (ni l)[i]? = some (.int (l.getD i 0 : Nat)) := by
  rw [List.getElem?_map, List.getElem?_eq_getElem h, List.getD_eq_getElem?_getD, List.getElem?_eq_getElem h]
  rfl
theorem ni_at {l : List Nat} {i : Nat} (h : i < l.length) : atI (ni l) (i : Nat) = some (.int (l.getD i 0 : Nat)) := atI_get (ni_get h)
theorem getD_le {l : List Nat} {n i : Nat} (h : ∀ v ∈ l, v ≤ n) : l.getD i 0 ≤ n := by
  rw [List.getD_eq_getElem?_getD]
  cases e : l[i]? with
  | none => exact Nat.zero_le _
  | some v => exact h v (List.mem_of_getElem? e)
/-- no integer (a bool is none) -/
def NoInt (H : Hp) (v : V) : Prop := (∃ b, v = .bl b) ∨ ∃ t, tyv H v = some t ∧ kitB t "int" = some false
theorem NoInt.same {H H' : Hp} {v : V} (h : NoInt H v) (s : Same H H') : NoInt H' v := by
  rcases h with h | ⟨t, h1, h2⟩
  · exact .inl h
  · exact .inr ⟨t, tyv_same s h1, h2⟩
theorem NoInt.kp {b : Addr} {H H' : Hp} {v : V} (h : NoInt H v) (B : Bag H b) (k : Kp b H H') : NoInt H' v := by
  rcases h with h | ⟨t, h1, h2⟩
  · exact .inl h
  · exact .inr ⟨t, tyv_kp B k h1, h2⟩
def BadN (H : Hp) (v : V) (lo hi : Int) : Prop := NoInt H v ∨ ∃ i, v = .int i ∧ ¬ (lo ≤ i ∧ i ≤ hi)
theorem BadN.same {H H' : Hp} {v : V} {lo hi : Int} (h : BadN H v lo hi) (s : Same H H') : BadN H' v lo hi := h.elim (fun h => .inl (h.same s)) .inr
theorem BadN.kp {b : Addr} {H H' : Hp} {v : V} {lo hi : Int} (h : BadN H v lo hi) (B : Bag H b) (k : Kp b H H') : BadN H' v lo hi := h.elim (fun h => .inl (h.kp B k)) .inr
def spIsI : Sp := fun vs H Q _ => ∃ (v : V) (lo hi : Int), vs = [v, .int lo, .int hi] ∧ ((∃ i, v = .int i ∧ lo ≤ i ∧ i ≤ hi ∧ Q (.bl true) H) ∨ (BadN H v lo hi ∧ Q (.bl false) H))
/-- an error of the class c about v -/
def Err (K : PySem.W.Frag) (c f : Str) (v : V) (H : Hp) (E : XK) : Prop := ∀ d H', Same H H' → H d = none → H' d = some (.xd [(f, v)]) → E (.ref (He.ga K c)) (some d) H'
def spChk (K : PySem.W.Frag) : Sp := fun vs H Q E => ∃ (x : Addr) (A : TrO) (T : Tr) (v : V), vs = [.ref x, v] ∧ TreeAt K H x A T ∧ TrOk T ∧
  ((∃ i : Nat, v = .int i ∧ i ≤ T.n ∧ ∀ H', Same H H' → Q .non H') ∨ (BadN H v 0 T.n ∧ Err K "NoThing" "thing" v H E))
/-- a number that is told of a thing -/
def spNum (K : PySem.W.Frag) (f : Tr → Nat → Nat) (g : Tr → Prop) : Sp := fun vs H Q E => ∃ (x : Addr) (A : TrO) (T : Tr) (v : V), vs = [.ref x, v] ∧ TreeAt K H x A T ∧ TrOk T ∧ g T ∧
  ((∃ i : Nat, v = .int i ∧ i ≤ T.n ∧ ∀ H', Same H H' → Q (.int (f T i : Nat)) H') ∨ (BadN H v 0 T.n ∧ Err K "NoThing" "thing" v H E))
def spLen (K : PySem.W.Frag) : Sp := fun vs H Q _ => ∃ (x : Addr) (A : TrO) (T : Tr), vs = [.ref x] ∧ TreeAt K H x A T ∧ TrOk T ∧ ∀ H', Same H H' → Q (.int (T.n : Nat)) H'
def spCont (K : PySem.W.Frag) : Sp := fun vs H Q _ => ∃ (x : Addr) (A : TrO) (T : Tr) (v : Int), vs = [.ref x, .int v] ∧ TreeAt K H x A T ∧ TrOk T ∧ Q (.bl (decide (1 ≤ v ∧ v ≤ T.n))) H
def spIter (K : PySem.W.Frag) : Sp := fun vs H Q _ => ∃ (x : Addr) (A : TrO) (T : Tr), vs = [.ref x] ∧ TreeAt K H x A T ∧ ∀ it, H it = none → Q (.ref it) (upd H it (LItO A.num it 0))
def spHas (K : PySem.W.Frag) : Sp := fun vs H Q E => ∃ (x : Addr) (A : TrO) (T : Tr) (v m : V), vs = [.ref x, v, m] ∧ TreeAt K H x A T ∧ TrOk T ∧
  ((∃ i j : Nat, v = .int i ∧ m = .int j ∧ i ≤ T.n ∧ j < 32 ∧ ∀ H', Same H H' → Q (.bl (decide (j ∈ T.mks.getD i []))) H') ∨ (BadN H v 0 T.n ∧ Err K "NoThing" "thing" v H E) ∨
   (∃ i : Nat, v = .int i ∧ i ≤ T.n ∧ BadN H m 0 31 ∧ Err K "BadMark" "mark" m H E))
theorem ni_len (l : List Nat) : (ni l).length = l.length := List.length_map ..
theorem TrOk.n_ {t : Tr} (ok : TrOk t) : (((ni t.hol).length : Nat) : Int) - 1 = (t.n : Nat) := by
  rw [ni_len, ok.lh]
  omega
theorem keyI {a j : Nat} : ((.inl ((a : Nat) : Int) : Key) = .inl ((j : Nat) : Int)) ↔ a = j := by
  constructor
  · intro h
    have := Sum.inl.inj h
    omega
  · rintro rfl
    rfl
theorem valV_mkv {j : Nat} : ∀ {l : List Nat}, valV (mkv l) (.inl (j : Int)) = if j ∈ l then some (.bl true) else none
  | [] => rfl
  | a :: l => by
    have ih := valV_mkv (j := j) (l := l)
    show valV ((.inl ((a : Nat) : Int), V.bl true) :: mkv l) _ = _
    by_cases e : a = j
    · rw [valV_pos (keyI.mpr e), if_pos (by rw [e]; exact List.mem_cons_self)]
    · rw [valV_neg (fun h => e (keyI.mp h)), ih]
      by_cases h : j ∈ l
      · rw [if_pos h, if_pos (List.mem_cons_of_mem _ h)]
      · rw [if_neg h, if_neg (fun h2 => (List.mem_cons.mp h2).elim (fun h3 => e h3.symm) h)]
theorem putK_mkv {j : Nat} {l : List Nat} : putK (mkv l) (.inl (j : Int)) (.bl true) = if j ∈ l then mkv l else mkv (l ++ [j]) := by
  unfold putK
  rw [valV_any, valV_mkv]
  by_cases h : j ∈ l
  · rw [if_pos h, if_pos h]
    show (if true = true then _ else _) = _
    rw [if_pos rfl]
    refine (List.map_congr_left fun kv hkv => ?_).trans (List.map_id _)
    obtain ⟨m, _, rfl⟩ := List.mem_map.mp hkv
    split <;> rfl
  · rw [if_neg h, if_neg h]
    show (if false = true then _ else _) = _
    rw [if_neg (by decide), mkv, mkv, List.map_append]
    rfl
theorem dropK_mkv {j : Nat} (l : List Nat) : dropK (mkv l) (.inl (j : Int)) = mkv (l.filter fun m => !decide (m = j)) := by
  unfold dropK
  induction l with
  | nil => rfl
  | cons a l ih =>
    show List.filter _ ((.inl ((a : Nat) : Int), V.bl true) :: mkv l) = _
    by_cases e : a = j
    · rw [List.filter_cons_of_neg (by rw [decide_eq_true_eq]; exact fun h => h (keyI.mpr e)), List.filter_cons_of_neg (by simpa using e)]
      exact ih
    · rw [List.filter_cons_of_pos (by rw [decide_eq_true_eq]; exact fun h => e (keyI.mp h)), List.filter_cons_of_pos (by simpa using e)]
      show _ = (.inl ((a : Nat) : Int), V.bl true) :: mkv (l.filter _)
      rw [← ih]
/-- what a deed on the tree changes -/
def TrO.fp (A : TrO) (a : Addr) : Prop := a = A.hol ∨ a = A.bes ∨ a = A.fir ∨ a ∈ A.ds
/-- a tree's own objects -/
def TrO.own (A : TrO) : List Addr := A.hol :: A.mr :: A.bes :: A.fir :: A.num :: A.ds
/-- all but these is kept -/
def Kf (F : Addr → Prop) (H H' : Hp) : Prop := ∀ a o, ¬ F a → H a = some o → H' a = some o
theorem Kf.refl {F : Addr → Prop} {H : Hp} : Kf F H H := fun _ _ _ h => h
theorem Kf.of {F : Addr → Prop} {H H' : Hp} (s : Same H H') : Kf F H H' := fun a o _ h => s a o h
theorem Kf.trans {F : Addr → Prop} {H H1 H2 : Hp} (a : Kf F H H1) (b : Kf F H1 H2) : Kf F H H2 := fun c o n h => b c o n (a c o n h)
theorem Kf.upd {F : Addr → Prop} {H H1 : Hp} (a : Kf F H H1) {D : Addr} (hD : F D) (o : HO) : Kf F H (upd H1 D o) := fun c u n h => by
  rw [upd_ne (fun e : c = D => n (by rw [e]; exact hD))]
  exact a c u n h
theorem lst_ne_dk {H : Hp} {a b : Addr} {xs : List V} {kvs : List (Key × V)} (h1 : H a = some (.lst xs)) (h2 : H b = some (.dK kvs)) : a ≠ b := ne_of h1 h2 (by intro z; cases z)
/-- one dict of marks is changed -/
theorem TreeAt.mark {K : PySem.W.Frag} {H : Hp} {x : Addr} {A : TrO} {T : Tr} (h : TreeAt K H x A T) {i : Nat} {d : Addr} {l' : List Nat} (hd : A.ds[i]? = some d) (hi : i < T.mks.length) : TreeAt K (upd H d (.dK (mkv l'))) x A { T with mks := T.mks.set i l' } := by
  have hdd := h.ds i d _ hd (List.getElem?_eq_getElem hi)
  obtain ⟨dx, hx⟩ := h.ins
  refine ⟨⟨dx, by rw [upd_ne (ne_of hx hdd (by intro z; cases z))]; exact hx⟩, ?_, ?_, ?_, ?_, ?_, by rw [List.length_set]; exact h.dl, fun i' d' l e1 e2 => ?_, h.nd, h.ne⟩
  · rw [upd_ne (lst_ne_dk h.hol hdd)]; exact h.hol
  · rw [upd_ne (lst_ne_dk h.bes hdd)]; exact h.bes
  · rw [upd_ne (lst_ne_dk h.fir hdd)]; exact h.fir
  · rw [upd_ne (lst_ne_dk h.num hdd)]; exact h.num
  · rw [upd_ne (lst_ne_dk h.mr hdd)]; exact h.mr
  · by_cases e : i' = i
    · subst e
      rw [hd] at e1
      cases e1
      have e3 : (T.mks.set i' l')[i']? = some l := e2
      rw [List.getElem?_set_self hi] at e3
      cases e3
      exact upd_same
    · have e3 : (T.mks.set i l')[i']? = some l := e2
      rw [List.getElem?_set_ne (Ne.symm e)] at e3
      have hne : d' ≠ d := fun z => by
        subst z
        have h1 := (List.getElem?_eq_some_iff.mp e1).1
        exact e ((List.getElem?_inj h1 h.nd).mp (e1.trans hd.symm))
      rw [upd_ne hne]
      exact h.ds i' d' l e1 e3
theorem TrOk.mark {T : Tr} (ok : TrOk T) {i : Nat} {l' : List Nat} (nd : l'.Nodup) (hb : ∀ m ∈ l', m < 32) : TrOk { T with mks := T.mks.set i l' } :=
  ⟨ok.n1, ok.n60, ok.lh, ok.lb, ok.lf, (List.length_set ..).trans ok.lm, ok.vh, ok.vb, ok.vf, fun l hl => by
    rcases List.mem_or_eq_of_mem_set hl with h | rfl
    · exact ok.vm l h
    · exact ⟨nd, hb⟩⟩
def giveL (i j : Nat) (l : List Nat) : List Nat := if i = 0 ∨ j ∈ l then l else l ++ [j]
def stripL (j : Nat) (l : List Nat) : List Nat := l.filter fun m => !decide (m = j)
/-- a deed on the marks of a thing -/
def spMarks (K : PySem.W.Frag) (g : Nat → Nat → List Nat → List Nat) : Sp := fun vs H Q E => ∃ (x : Addr) (A : TrO) (T : Tr) (v m : V), vs = [.ref x, v, m] ∧ TreeAt K H x A T ∧ TrOk T ∧
  ((∃ i j : Nat, v = .int i ∧ m = .int j ∧ i ≤ T.n ∧ j < 32 ∧ ∀ H', Kf A.fp H H' → TreeAt K H' x A { T with mks := T.mks.set i (g i j (T.mks.getD i [])) } → TrOk { T with mks := T.mks.set i (g i j (T.mks.getD i [])) } → Q .non H') ∨
   (BadN H v 0 T.n ∧ Err K "NoThing" "thing" v H E) ∨ (∃ i : Nat, v = .int i ∧ i ≤ T.n ∧ BadN H m 0 31 ∧ Err K "BadMark" "mark" m H E))
theorem setD_self {l : List (List Nat)} {i : Nat} (h : i < l.length) : l.set i (l.getD i []) = l := by
  rw [List.getD_eq_getElem?_getD, List.getElem?_eq_getElem h]
  exact List.set_getElem_self ..
theorem nodup_le : ∀ {a b : List Nat}, a.Nodup → (∀ z ∈ a, z ∈ b) → a.length ≤ b.length
  | [], _, _, _ => Nat.zero_le _
  | x :: a, b, nd, h => by
    have hx := h x List.mem_cons_self
    have := nodup_le (a := a) (b := b.erase x) (List.nodup_cons.mp nd).2 fun z hz => (List.mem_erase_of_ne (fun (e : z = x) => (List.nodup_cons.mp nd).1 (e ▸ hz))).mpr (h z (List.mem_cons_of_mem _ hz))
    rw [List.length_erase_of_mem hx] at this
    have := List.length_pos_of_mem hx
    rw [List.length_cons]
    omega
theorem nodup_lt {l : List Nat} {n : Nat} (nd : l.Nodup) (h : ∀ m ∈ l, m < n) : l.length ≤ n := by
  have := nodup_le nd (b := List.range n) fun z hz => List.mem_range.mpr (h z hz)
  rw [List.length_range] at this
  exact this
/-! ### the forest of a tree -/
def Chain (bes : List Nat) : Nat → List Nat → Prop
  | f, [] => f = 0
  | f, p :: ps => f = p ∧ p ≠ 0 ∧ Chain bes (bes.getD p 0) ps
/-- the holders lead to 0 -/
def Ranked (hol : List Nat) (n : Nat) (r : Nat → Nat) : Prop := ∀ t, 1 ≤ t → t ≤ n → r (hol.getD t 0) < r t ∧ r t ≤ n
structure Forest (T : Tr) (P : List (List Nat)) : Prop where
  len : P.length = T.n + 1
  mem : ∀ h t, h ≤ T.n → (t ∈ P.getD h [] ↔ 1 ≤ t ∧ t ≤ T.n ∧ T.hol.getD t 0 = h)
  nd : ∀ l ∈ P, l.Nodup
  ch : ∀ h, 1 ≤ h → h ≤ T.n → Chain T.bes (T.fir.getD h 0) (P.getD h [])
  f0 : T.fir.getD 0 0 = 0
  b0 : ∀ t, t ≤ T.n → T.hol.getD t 0 = 0 → T.bes.getD t 0 = 0
  h0 : T.hol.getD 0 0 = 0
  rk : ∃ r, Ranked T.hol T.n r
/-- a rank may be bounded by the number of things -/
theorem rank_bd {hol : List Nat} {n : Nat} (hb : ∀ v ∈ hol, v ≤ n) {r : Nat → Nat} (h : ∀ t, 1 ≤ t → t ≤ n → r (hol.getD t 0) < r t) : ∃ r', Ranked hol n r' := by
  refine ⟨fun t => ((List.range' 1 n).filter fun u => decide (r u ≤ r t)).length, fun t h1 h2 => ⟨?_, ?_⟩⟩
  · have sub : ∀ z ∈ t :: (List.range' 1 n).filter (fun u => decide (r u ≤ r (hol.getD t 0))), z ∈ (List.range' 1 n).filter fun u => decide (r u ≤ r t) := fun z hz => by
      rcases List.mem_cons.mp hz with rfl | hz
      · exact List.mem_filter.mpr ⟨List.mem_range'_1.mpr ⟨h1, by omega⟩, by simp⟩
      · obtain ⟨a, b⟩ := List.mem_filter.mp hz
        have := h t h1 h2
        exact List.mem_filter.mpr ⟨a, by
          rw [decide_eq_true_eq] at b ⊢
          omega⟩
    have nd : (t :: (List.range' 1 n).filter (fun u => decide (r u ≤ r (hol.getD t 0)))).Nodup := by
      refine List.nodup_cons.mpr ⟨fun hm => ?_, (List.nodup_range' ..).filter _⟩
      have := (List.mem_filter.mp hm).2
      rw [decide_eq_true_eq] at this
      have := h t h1 h2
      omega
    have := nodup_le nd sub
    rw [List.length_cons] at this
    exact this
  · have := List.length_filter_le (fun u => decide (r u ≤ r t)) (List.range' 1 n)
    rw [List.length_range'] at this
    exact this
def inside (hol : List Nat) (thing : Nat) : Nat → Nat → Bool
  | 0, _ => false
  | k + 1, at_ => if at_ = 0 then false else if at_ = thing then true else inside hol thing k (hol.getD at_ 0)
theorem inside_more {hol : List Nat} {n thing : Nat} {r : Nat → Nat} (hb : ∀ v ∈ hol, v ≤ n) (hr : Ranked hol n r) : ∀ (k at_ : Nat), at_ ≤ n → (at_ ≠ 0 → r at_ ≤ k) → ∀ m, k ≤ m → inside hol thing m at_ = inside hol thing k at_
  | 0, at_, ha, h, m, _ => by
    have e : at_ = 0 := Classical.byContradiction fun g => by
      have := h g
      have := hr at_ (by omega) ha
      omega
    subst e
    cases m with
    | zero => rfl
    | succ m => rfl
  | k + 1, at_, ha, h, m, hm => by
    obtain ⟨m, rfl⟩ : ∃ q, m = q + 1 := ⟨m - 1, by omega⟩
    unfold inside
    by_cases g : at_ = 0
    · rw [if_pos g, if_pos g]
    · rw [if_neg g, if_neg g]
      by_cases g2 : at_ = thing
      · rw [if_pos g2, if_pos g2]
      · rw [if_neg g2, if_neg g2]
        have h1 := hr at_ (by omega) ha
        have h2 := h g
        exact inside_more hb hr k _ (getD_le hb) (fun _ => by omega) m (by omega)
def topN (hol : List Nat) : Nat → Nat → Nat
  | 0, at_ => at_
  | k + 1, at_ => if hol.getD at_ 0 = 0 then at_ else topN hol k (hol.getD at_ 0)
theorem topN_more {hol : List Nat} {n : Nat} {r : Nat → Nat} (hb : ∀ v ∈ hol, v ≤ n) (h0 : hol.getD 0 0 = 0) (hr : Ranked hol n r) : ∀ (k at_ : Nat), at_ ≤ n → (at_ ≠ 0 → r at_ ≤ k) → ∀ m, k ≤ m → topN hol m at_ = topN hol k at_
  | 0, at_, ha, h, m, _ => by
    have e : at_ = 0 := Classical.byContradiction fun g => by
      have := h g
      have := hr at_ (by omega) ha
      omega
    subst e
    cases m with
    | zero => rfl
    | succ m =>
      unfold topN
      rw [if_pos h0]
  | k + 1, at_, ha, h, m, hm => by
    obtain ⟨m, rfl⟩ : ∃ q, m = q + 1 := ⟨m - 1, by omega⟩
    unfold topN
    by_cases g : hol.getD at_ 0 = 0
    · rw [if_pos g, if_pos g]
    · rw [if_neg g, if_neg g]
      have g0 : at_ ≠ 0 := fun e => g (by rw [e]; exact h0)
      have h1 := hr at_ (by omega) ha
      have h2 := h g0
      exact topN_more hb h0 hr k _ (getD_le hb) (fun _ => by omega) m (by omega)
def partsOf (P : List (List Nat)) (h : Nat) : List Nat := if h = 0 then [] else P.getD h []
def RankT (T : Tr) : Prop := T.hol.getD 0 0 = 0 ∧ ∃ r, Ranked T.hol T.n r
def spHolds (K : PySem.W.Frag) : Sp := fun vs H Q E => ∃ (x : Addr) (A : TrO) (T : Tr) (v w : V), vs = [.ref x, v, w] ∧ TreeAt K H x A T ∧ TrOk T ∧ RankT T ∧
  ((∃ i j : Nat, v = .int i ∧ w = .int j ∧ i ≤ T.n ∧ j ≤ T.n ∧ ∀ H', Same H H' → Q (.bl (inside T.hol i T.n (T.hol.getD j 0))) H') ∨ (BadN H v 0 T.n ∧ Err K "NoThing" "thing" v H E) ∨
   (∃ i : Nat, v = .int i ∧ i ≤ T.n ∧ BadN H w 0 T.n ∧ Err K "NoThing" "thing" w H E))
def spParts (K : PySem.W.Frag) : Sp := fun vs H Q E => ∃ (x : Addr) (A : TrO) (T : Tr) (P : List (List Nat)) (v : V), vs = [.ref x, v] ∧ TreeAt K H x A T ∧ TrOk T ∧ Forest T P ∧
  ((∃ i : Nat, v = .int i ∧ i ≤ T.n ∧ ∀ p H', Same H H' → H p = none → H' p = some (.tup (ni (partsOf P i))) → Q (.ref p) H') ∨ (BadN H v 0 T.n ∧ Err K "NoThing" "thing" v H E))
/-- thing i is taken from its holder and put ahead of the parts of h -/
def movedP (P : List (List Nat)) (o h i : Nat) : List (List Nat) := (P.set o ((P.getD o []).erase i)).set h (i :: ((P.set o ((P.getD o []).erase i)).getD h []))
/-- what a move makes of the tree -/
structure Moved (T T' : Tr) (P : List (List Nat)) (i h : Nat) : Prop where
  ok : TrOk T'
  hol : T'.hol = T.hol.set i h
  mks : T'.mks = T.mks
  for_ : Forest T' (movedP P (T.hol.getD i 0) h i)
def stays (T : Tr) (i h : Nat) : Bool := decide (i = 0) || decide (i = h) || inside T.hol i T.n (T.hol.getD h 0)
def spMove (K : PySem.W.Frag) : Sp := fun vs H Q E => ∃ (x : Addr) (A : TrO) (T : Tr) (P : List (List Nat)) (v w : V), vs = [.ref x, v, w] ∧ TreeAt K H x A T ∧ TrOk T ∧ Forest T P ∧
  ((∃ i h : Nat, v = .int i ∧ w = .int h ∧ i ≤ T.n ∧ h ≤ T.n ∧ (stays T i h = true → ∀ H', Same H H' → Q .non H') ∧ (stays T i h = false → ∀ T' H', Kf A.fp H H' → Moved T T' P i h → TreeAt K H' x A T' → Q .non H')) ∨
   (BadN H v 0 T.n ∧ Err K "NoThing" "thing" v H E) ∨ (∃ i : Nat, v = .int i ∧ i ≤ T.n ∧ BadN H w 0 T.n ∧ Err K "NoThing" "thing" w H E))
theorem TreeAt.nes {K : PySem.W.Frag} {H : Hp} {x : Addr} {A : TrO} {T : Tr} (h : TreeAt K H x A T) : (A.hol ≠ A.bes ∧ A.hol ≠ A.fir ∧ A.hol ≠ A.num ∧ A.hol ≠ A.mr) ∧ (A.bes ≠ A.fir ∧ A.bes ≠ A.num ∧ A.bes ≠ A.mr) ∧ (A.fir ≠ A.num ∧ A.fir ≠ A.mr) ∧ A.num ≠ A.mr := by
  have := h.ne
  simp only [List.nodup_cons, List.mem_cons, List.not_mem_nil, or_false, not_or, not_false_eq_true, List.nodup_nil, and_true] at this
  exact this
/-- one of the lists of numbers is changed -/
theorem TreeAt.put {K : PySem.W.Frag} {H : Hp} {x : Addr} {A : TrO} {T : Tr} (h : TreeAt K H x A T) {D : Addr} {xs ys : List V} (hD : H D = some (.lst xs)) (n1 : D ≠ A.num) (n2 : D ≠ A.mr) {T' : Tr} (en : T'.n = T.n) (em : T'.mks = T.mks)
    (e1 : (D = A.hol ∧ ys = ni T'.hol) ∨ (D ≠ A.hol ∧ T'.hol = T.hol)) (e2 : (D = A.bes ∧ ys = ni T'.bes) ∨ (D ≠ A.bes ∧ T'.bes = T.bes)) (e3 : (D = A.fir ∧ ys = ni T'.fir) ∨ (D ≠ A.fir ∧ T'.fir = T.fir)) : TreeAt K (upd H D (.lst ys)) x A T' := by
  obtain ⟨dx, hx⟩ := h.ins
  have go : ∀ {a : Addr} {l l' : List Nat}, H a = some (.lst (ni l)) → ((D = a ∧ ys = ni l') ∨ (D ≠ a ∧ l' = l)) → (upd H D (.lst ys)) a = some (.lst (ni l')) := fun {a l l'} ha e => by
    rcases e with ⟨rfl, rfl⟩ | ⟨e, rfl⟩
    · exact upd_same
    · rw [upd_ne (Ne.symm e)]
      exact ha
  refine ⟨⟨dx, by rw [upd_ne (ne_of hx hD (by intro z; cases z))]; exact hx⟩, go h.hol e1, go h.bes e2, go h.fir e3, ?_, ?_, by rw [em]; exact h.dl, fun i d l a b => ?_, h.nd, h.ne⟩
  · rw [upd_ne (Ne.symm n1), en]
    exact h.num
  · rw [upd_ne (Ne.symm n2)]
    exact h.mr
  · rw [em] at b
    have := h.ds i d l a b
    rw [upd_ne (Ne.symm (lst_ne_dk hD this))]
    exact this
theorem Tr.n_set {T : Tr} {l b f : List Nat} {m : List (List Nat)} (e : l.length = T.hol.length) : Tr.n ⟨l, b, f, m⟩ = T.n := by
  unfold Tr.n
  rw [e]
theorem TreeAt.sHol {K : PySem.W.Frag} {H : Hp} {x : Addr} {A : TrO} {T : Tr} (h : TreeAt K H x A T) {l : List Nat} (e : l.length = T.hol.length) : TreeAt K (upd H A.hol (.lst (ni l))) x A ⟨l, T.bes, T.fir, T.mks⟩ := by
  obtain ⟨⟨a, b, c, d⟩, _, _⟩ := h.nes
  exact h.put h.hol c d (Tr.n_set e) rfl (.inl ⟨rfl, rfl⟩) (.inr ⟨a, rfl⟩) (.inr ⟨b, rfl⟩)
theorem TreeAt.sBes {K : PySem.W.Frag} {H : Hp} {x : Addr} {A : TrO} {T : Tr} (h : TreeAt K H x A T) (l : List Nat) : TreeAt K (upd H A.bes (.lst (ni l))) x A ⟨T.hol, l, T.fir, T.mks⟩ := by
  obtain ⟨⟨a, _⟩, ⟨b, c, d⟩, _⟩ := h.nes
  exact h.put h.bes c d rfl rfl (.inr ⟨Ne.symm a, rfl⟩) (.inl ⟨rfl, rfl⟩) (.inr ⟨b, rfl⟩)
theorem TreeAt.sFir {K : PySem.W.Frag} {H : Hp} {x : Addr} {A : TrO} {T : Tr} (h : TreeAt K H x A T) (l : List Nat) : TreeAt K (upd H A.fir (.lst (ni l))) x A ⟨T.hol, T.bes, l, T.mks⟩ := by
  obtain ⟨⟨_, a, _⟩, ⟨b, _⟩, ⟨c, d⟩, _⟩ := h.nes
  exact h.put h.fir c d rfl rfl (.inr ⟨Ne.symm a, rfl⟩) (.inr ⟨Ne.symm b, rfl⟩) (.inl ⟨rfl, rfl⟩)
theorem getD_set {l : List Nat} {i j v : Nat} : (l.set i v).getD j 0 = if i = j ∧ j < l.length then v else l.getD j 0 := by
  rw [List.getD_eq_getElem?_getD, List.getD_eq_getElem?_getD, List.getElem?_set]
  by_cases h : i = j
  · subst h
    by_cases h2 : i < l.length
    · rw [if_pos rfl, if_pos h2, if_pos ⟨rfl, h2⟩]
      rfl
    · rw [if_pos rfl, if_neg h2, if_neg (fun z => h2 z.2), List.getElem?_eq_none (by omega)]
  · rw [if_neg h, if_neg (fun z => h z.1)]
theorem getDL_set {l : List (List Nat)} {i j : Nat} {v : List Nat} : (l.set i v).getD j [] = if i = j ∧ j < l.length then v else l.getD j [] := by
  rw [List.getD_eq_getElem?_getD, List.getD_eq_getElem?_getD, List.getElem?_set]
  by_cases h : i = j
  · subst h
    by_cases h2 : i < l.length
    · rw [if_pos rfl, if_pos h2, if_pos ⟨rfl, h2⟩]
      rfl
    · rw [if_pos rfl, if_neg h2, if_neg (fun z => h2 z.2), List.getElem?_eq_none (by omega)]
  · rw [if_neg h, if_neg (fun z => h z.1)]
theorem chain_set {bes : List Nat} {z v : Nat} : ∀ {l : List Nat} {f : Nat}, Chain bes f l → z ∉ l → Chain (bes.set z v) f l
  | [], _, h, _ => h
  | p :: ps, f, ⟨h1, h2, h3⟩, hz => by
    refine ⟨h1, h2, ?_⟩
    rw [getD_set, if_neg (fun g => hz (by rw [g.1]; exact List.mem_cons_self))]
    exact chain_set h3 fun g => hz (List.mem_cons_of_mem _ g)
/-- i is cut out behind q -/
theorem chain_cut {bes : List Nat} {q i : Nat} (hq : q < bes.length) : ∀ {a c : List Nat} {f : Nat}, Chain bes f (a ++ q :: i :: c) → (a ++ q :: i :: c).Nodup → Chain (bes.set q (bes.getD i 0)) f (a ++ q :: c)
  | [], c, f, ⟨h1, h2, h3, h4, h5⟩, nd => by
    refine ⟨h1, h2, ?_⟩
    rw [getD_set, if_pos ⟨rfl, hq⟩]
    refine chain_set h5 fun g => (List.nodup_cons.mp nd).1 (List.mem_cons_of_mem _ g)
  | p :: a, c, f, ⟨h1, h2, h3⟩, nd => by
    refine ⟨h1, h2, ?_⟩
    obtain ⟨n1, n2⟩ := List.nodup_cons.mp nd
    rw [getD_set, if_neg (fun g => n1 (by rw [← g.1]; exact List.mem_append_right _ List.mem_cons_self))]
    exact chain_cut hq h3 n2
theorem chain_mid {bes : List Nat} : ∀ {a c : List Nat} {f i : Nat}, Chain bes f (a ++ i :: c) → Chain bes (bes.getD i 0) c
  | [], _, _, _, ⟨_, _, h⟩ => h
  | _ :: _, _, _, _, ⟨_, _, h⟩ => chain_mid h
theorem chain_at {bes : List Nat} : ∀ {a c : List Nat} {f i : Nat}, Chain bes f (a ++ i :: c) → Chain bes i (i :: c)
  | [], _, _, _, h => by rw [h.1] at h; exact ⟨rfl, h.2.1, h.2.2⟩
  | _ :: _, _, _, _, ⟨_, _, h⟩ => chain_at h
/-- the holders behind a move still lead to 0 -/
theorem rank_move {hol : List Nat} {n i h : Nat} {r : Nat → Nat} (hl : hol.length = n + 1) (hb : ∀ v ∈ hol, v ≤ n) (h0 : hol.getD 0 0 = 0) (hr : Ranked hol n r) (i1 : 1 ≤ i) (hi : i ≤ n) (hh : h ≤ n) (ne : i ≠ h) (no : inside hol i n (hol.getD h 0) = false) : ∃ r', Ranked (hol.set i h) n r' := by
  obtain ⟨m, rfl⟩ : ∃ m, n = m + 1 := ⟨n - 1, by omega⟩
  obtain ⟨W, hW⟩ : ∃ W : Nat → Prop, W = fun t => t = i ∨ inside hol i (m + 1) (hol.getD t 0) = true := ⟨_, rfl⟩
  have up : ∀ t, t ≠ i → (W (hol.getD t 0) ↔ W t) := fun t ht => by
    rw [hW]
    dsimp only
    generalize eu : hol.getD t 0 = u
    have hu : u ≤ m + 1 := by rw [← eu]; exact getD_le hb
    by_cases g : u = 0
    · subst g
      rw [h0]
      have e : inside hol i (m + 1) 0 = false := if_pos rfl
      rw [e]
      constructor
      · rintro (k | k)
        · omega
        · cases k
      · rintro (k | k)
        · exact absurd k ht
        · cases k
    · have e : inside hol i (m + 1) u = if u = i then true else inside hol i m (hol.getD u 0) := if_neg g
      have h1 := hr u (by omega) hu
      rw [e, ← inside_more hb hr m (hol.getD u 0) (getD_le hb) (fun _ => by omega) (m + 1) (by omega)]
      by_cases g2 : u = i
      · rw [if_pos g2]
        exact ⟨fun _ => .inr rfl, fun _ => .inl g2⟩
      · rw [if_neg g2]
        exact ⟨fun k => .inr (k.elim (fun z => absurd z g2) id), fun k => .inr (k.elim (fun z => absurd z ht) id)⟩
  have wi : W i := by rw [hW]; exact .inl rfl
  have wh : ¬ W h := by
    rw [hW]
    rintro (k | k)
    · exact ne k.symm
    · rw [no] at k
      cases k
  have hb' : ∀ v ∈ hol.set i h, v ≤ m + 1 := fun v hv => (List.mem_or_eq_of_mem_set hv).elim (hb v) fun e => by omega
  haveI : DecidablePred W := fun t => Classical.propDecidable _
  refine rank_bd hb' (r := fun t => if W t then r t + r h + 1 else r t) fun t t1 t2 => ?_
  by_cases e : i = t
  · subst e
    rw [show (hol.set i h).getD i 0 = h by rw [getD_set, if_pos ⟨rfl, by omega⟩], if_neg wh, if_pos wi]
    omega
  · rw [show (hol.set i h).getD t 0 = hol.getD t 0 by rw [getD_set, if_neg (fun z => e z.1)]]
    have := (hr t t1 t2).1
    have u := up t (Ne.symm e)
    by_cases w : W t
    · rw [if_pos w, if_pos (u.mpr w)]
      omega
    · rw [if_neg w, if_neg (fun z => w (u.mp z))]
      exact this
/-- thing i is taken out of its holder's row -/
structure Cut (T : Tr) (P : List (List Nat)) (i : Nat) (b1 f1 : List Nat) : Prop where
  lb : b1.length = T.n + 1
  lf : f1.length = T.n + 1
  vb : ∀ v ∈ b1, v ≤ T.n
  vf : ∀ v ∈ f1, v ≤ T.n
  ch : ∀ g, 1 ≤ g → g ≤ T.n → Chain b1 (f1.getD g 0) ((P.set (T.hol.getD i 0) ((P.getD (T.hol.getD i 0) []).erase i)).getD g [])
  f0 : f1.getD 0 0 = 0
  b0 : ∀ t, t ≤ T.n → T.hol.getD t 0 = 0 → b1.getD t 0 = 0
theorem nodup_row {T : Tr} {P : List (List Nat)} (F : Forest T P) (g : Nat) : (P.getD g []).Nodup := by
  rw [List.getD_eq_getElem?_getD]
  cases e : P[g]? with
  | none => exact .nil
  | some l => exact F.nd l (List.mem_of_getElem? e)
theorem erase_mid {a c : List Nat} {i : Nat} (h : (a ++ i :: c).Nodup) : (a ++ i :: c).erase i = a ++ c := by
  have : i ∉ a := fun z => by
    have := (List.nodup_append.mp h).2.2 i z i List.mem_cons_self
    exact this rfl
  rw [List.erase_append_right _ this, List.erase_cons_head]
/-- the rows of the others do not hear of it -/
theorem row_ne {T : Tr} {P : List (List Nat)} (F : Forest T P) {g o q : Nat} (hg : g ≤ T.n) (ho : o ≤ T.n) (h : q ∈ P.getD o []) (ne : g ≠ o) : q ∉ P.getD g [] := fun z => ne (((F.mem g q hg).mp z).2.2.symm.trans ((F.mem o q ho).mp h).2.2)
theorem cut_root {T : Tr} {P : List (List Nat)} {i : Nat} (ok : TrOk T) (F : Forest T P) (ho : T.hol.getD i 0 = 0) : Cut T P i T.bes T.fir :=
  ⟨ok.lb, ok.lf, ok.vb, ok.vf, fun g g1 g2 => by
    rw [ho, getDL_set, if_neg (fun z => by omega)]
    exact F.ch g g1 g2, F.f0, F.b0⟩
theorem cut_first {T : Tr} {P : List (List Nat)} {i o : Nat} {c : List Nat} (ok : TrOk T) (F : Forest T P) (eo : T.hol.getD i 0 = o) (o1 : 1 ≤ o) (ho : o ≤ T.n) (hP : P.getD o [] = i :: c) : Cut T P i T.bes (T.fir.set o (T.bes.getD i 0)) := by
  refine ⟨ok.lb, (List.length_set ..).trans ok.lf, ok.vb, fun v hv => (List.mem_or_eq_of_mem_set hv).elim (ok.vf v) fun e => by rw [e]; exact getD_le ok.vb, fun g g1 g2 => ?_, ?_, F.b0⟩
  · rw [eo, getDL_set, getD_set, hP, List.erase_cons_head]
    by_cases e : o = g
    · subst e
      rw [if_pos ⟨rfl, by rw [ok.lf]; omega⟩, if_pos ⟨rfl, by rw [F.len]; omega⟩]
      have := F.ch o o1 ho
      rw [hP] at this
      exact this.2.2
    · rw [if_neg (fun z => e z.1), if_neg (fun z => e z.1)]
      exact F.ch g g1 g2
  · rw [getD_set, if_neg (fun z => by omega)]
    exact F.f0
theorem cut_later {T : Tr} {P : List (List Nat)} {i o q : Nat} {a c : List Nat} (ok : TrOk T) (F : Forest T P) (eo : T.hol.getD i 0 = o) (o1 : 1 ≤ o) (ho : o ≤ T.n) (hP : P.getD o [] = a ++ q :: i :: c) : Cut T P i (T.bes.set q (T.bes.getD i 0)) T.fir := by
  have hq : q ∈ P.getD o [] := by rw [hP]; exact List.mem_append_right _ List.mem_cons_self
  have hqn := (F.mem o q ho).mp hq
  have nd := nodup_row F o
  rw [hP] at nd
  refine ⟨(List.length_set ..).trans ok.lb, ok.lf, fun v hv => (List.mem_or_eq_of_mem_set hv).elim (ok.vb v) fun e => by rw [e]; exact getD_le ok.vb, ok.vf, fun g g1 g2 => ?_, F.f0, fun t ht h0 => ?_⟩
  · rw [eo, getDL_set]
    by_cases e : o = g
    · subst e
      rw [if_pos ⟨rfl, by rw [F.len]; omega⟩]
      have h1 := F.ch o o1 ho
      rw [hP] at h1 ⊢
      rw [show a ++ q :: i :: c = (a ++ [q]) ++ i :: c by simp] at nd ⊢
      rw [erase_mid nd]
      have nd2 : (a ++ q :: i :: c).Nodup := by
        rw [show a ++ q :: i :: c = (a ++ [q]) ++ i :: c by simp]
        exact nd
      have := chain_cut (by rw [ok.lb]; omega) h1 nd2
      rw [show (a ++ [q]) ++ c = a ++ q :: c by simp]
      exact this
    · rw [if_neg (fun z => e z.1)]
      exact chain_set (F.ch g g1 g2) (row_ne F g2 ho hq (Ne.symm e))
  · rw [getD_set, if_neg (fun z => by
      have := hqn.2.2
      rw [z.1, h0] at this
      omega)]
    exact F.b0 t ht h0
/-- and put ahead of the row of h -/
theorem moved_of {T : Tr} {P : List (List Nat)} {i h : Nat} {b1 f1 : List Nat} (ok : TrOk T) (F : Forest T P) (i1 : 1 ≤ i) (hi : i ≤ T.n) (hh : h ≤ T.n) (ne : i ≠ h) (no : inside T.hol i T.n (T.hol.getD h 0) = false) (C : Cut T P i b1 f1) :
    Moved T ⟨T.hol.set i h, b1.set i (if h = 0 then 0 else f1.getD h 0), if h = 0 then f1 else f1.set h i, T.mks⟩ P i h := by
  have en : Tr.n ⟨T.hol.set i h, b1.set i (if h = 0 then 0 else f1.getD h 0), if h = 0 then f1 else f1.set h i, T.mks⟩ = T.n := Tr.n_set (List.length_set ..)
  have ho : T.hol.getD i 0 ≤ T.n := getD_le ok.vh
  have hio : i ∈ P.getD (T.hol.getD i 0) [] := (F.mem _ i ho).mpr ⟨i1, hi, rfl⟩
  -- the rows without i
  have m1 : ∀ g t, g ≤ T.n → (t ∈ (P.set (T.hol.getD i 0) ((P.getD (T.hol.getD i 0) []).erase i)).getD g [] ↔ t ≠ i ∧ t ∈ P.getD g []) := fun g t hg => by
    rw [getDL_set]
    by_cases e : T.hol.getD i 0 = g
    · rw [if_pos ⟨e, by rw [F.len]; omega⟩, e]
      exact (nodup_row F g).mem_erase_iff
    · rw [if_neg (fun z => e z.1)]
      refine ⟨fun z => ⟨?_, z⟩, fun z => z.2⟩
      rintro rfl
      exact row_ne F hg ho hio (Ne.symm e) z
  have n1 : ∀ l ∈ P.set (T.hol.getD i 0) ((P.getD (T.hol.getD i 0) []).erase i), l.Nodup := fun l hl => by
    rcases List.mem_or_eq_of_mem_set hl with h | rfl
    · exact F.nd l h
    · exact (nodup_row F _).erase _
  have l1 : (P.set (T.hol.getD i 0) ((P.getD (T.hol.getD i 0) []).erase i)).length = T.n + 1 := (List.length_set ..).trans F.len
  have cch := C.ch
  obtain ⟨P1, eP1⟩ : ∃ P1, P1 = P.set (T.hol.getD i 0) ((P.getD (T.hol.getD i 0) []).erase i) := ⟨_, rfl⟩
  have eM : movedP P (T.hol.getD i 0) h i = P1.set h (i :: P1.getD h []) := by rw [eP1]; rfl
  rw [← eP1] at m1 n1 l1 cch
  refine ⟨⟨by rw [en]; exact ok.n1, by rw [en]; exact ok.n60, ?_, ?_, ?_, ?_, ?_, ?_, ?_, ok.vm⟩, rfl, rfl, ⟨?_, ?_, ?_, ?_, ?_, ?_, ?_, ?_⟩⟩
  · rw [en]; exact (List.length_set ..).trans ok.lh
  · rw [en]; exact (List.length_set ..).trans C.lb
  · rw [en]
    show (if h = 0 then f1 else f1.set h i).length = _
    split
    · exact C.lf
    · exact (List.length_set ..).trans C.lf
  · rw [en]; exact ok.lm
  · rw [en]
    exact fun v hv => (List.mem_or_eq_of_mem_set hv).elim (ok.vh v) fun e => by omega
  · rw [en]
    refine fun v hv => (List.mem_or_eq_of_mem_set hv).elim (C.vb v) fun e => ?_
    rw [e]
    split
    · omega
    · exact getD_le C.vf
  · rw [en]
    intro v hv
    have hv : v ∈ (if h = 0 then f1 else f1.set h i) := hv
    split at hv
    · exact C.vf v hv
    · exact (List.mem_or_eq_of_mem_set hv).elim (C.vf v) fun e => by omega
  · rw [eM, en]; exact (List.length_set ..).trans l1
  · intro g t hg
    rw [en] at hg ⊢
    show _ ↔ 1 ≤ t ∧ t ≤ T.n ∧ (T.hol.set i h).getD t 0 = g
    rw [eM, getDL_set, getD_set]
    by_cases e : h = g
    · subst e
      rw [if_pos ⟨rfl, by omega⟩, List.mem_cons, m1 h t hh, F.mem h t hh]
      by_cases e2 : i = t
      · subst e2
        rw [if_pos ⟨rfl, by rw [ok.lh]; omega⟩]
        exact ⟨fun _ => ⟨i1, hi, rfl⟩, fun _ => .inl rfl⟩
      · rw [if_neg (fun z => e2 z.1)]
        exact ⟨fun z => z.elim (fun z => absurd z.symm e2) fun z => z.2, fun z => .inr ⟨Ne.symm e2, z⟩⟩
    · rw [if_neg (fun z => e z.1), m1 g t hg, F.mem g t hg]
      by_cases e2 : i = t
      · subst e2
        rw [if_pos ⟨rfl, by rw [ok.lh]; omega⟩]
        exact ⟨fun z => absurd rfl z.1, fun z => absurd z.2.2 e⟩
      · rw [if_neg (fun z => e2 z.1)]
        exact ⟨fun z => z.2, fun z => ⟨Ne.symm e2, z⟩⟩
  · intro l hl
    rw [eM] at hl
    rcases List.mem_or_eq_of_mem_set hl with k | rfl
    · exact n1 l k
    · refine List.nodup_cons.mpr ⟨fun z => ((m1 h i hh).mp z).1 rfl, ?_⟩
      rw [List.getD_eq_getElem?_getD]
      cases e : P1[h]? with
      | none => exact .nil
      | some l => exact n1 l (List.mem_of_getElem? e)
  · intro g g1 g2
    rw [en] at g2
    have ni_ : i ∉ P1.getD g [] := fun z => ((m1 g i g2).mp z).1 rfl
    have c1 := chain_set (v := if h = 0 then 0 else f1.getD h 0) (cch g g1 g2) ni_
    show Chain (b1.set i _) ((if h = 0 then f1 else f1.set h i).getD g 0) _
    by_cases e : h = g
    · subst e
      have h0 : h ≠ 0 := by omega
      have e1 : (P1.set h (i :: P1.getD h [])).getD h [] = i :: P1.getD h [] := by rw [getDL_set, if_pos ⟨rfl, by omega⟩]
      have e2 : (if h = 0 then f1 else f1.set h i).getD h 0 = i := by rw [if_neg h0, getD_set, if_pos ⟨rfl, by rw [C.lf]; omega⟩]
      rw [eM, e1, e2]
      refine ⟨rfl, by omega, ?_⟩
      rw [if_neg h0] at c1 ⊢
      rw [getD_set, if_pos ⟨rfl, by rw [C.lb]; omega⟩]
      exact c1
    · have e1 : (P1.set h (i :: P1.getD h [])).getD g [] = P1.getD g [] := by rw [getDL_set, if_neg (fun z => e z.1)]
      have e2 : (if h = 0 then f1 else f1.set h i).getD g 0 = f1.getD g 0 := by
        by_cases h0 : h = 0
        · rw [if_pos h0]
        · rw [if_neg h0, getD_set, if_neg (fun z => e z.1)]
      rw [eM, e1, e2]
      exact c1
  · show (if h = 0 then f1 else f1.set h i).getD 0 0 = 0
    by_cases h0 : h = 0
    · rw [if_pos h0]; exact C.f0
    · rw [if_neg h0, getD_set, if_neg (fun z => h0 z.1)]; exact C.f0
  · intro t ht h0
    rw [en] at ht
    have h0 : (T.hol.set i h).getD t 0 = 0 := h0
    show (b1.set i _).getD t 0 = 0
    rw [getD_set] at h0 ⊢
    by_cases e : i = t
    · subst e
      rw [if_pos ⟨rfl, by rw [ok.lh]; omega⟩] at h0
      rw [if_pos ⟨rfl, by rw [C.lb]; omega⟩, if_pos h0]
    · rw [if_neg (fun z => e z.1)] at h0 ⊢
      exact C.b0 t ht h0
  · show (T.hol.set i h).getD 0 0 = 0
    rw [getD_set, if_neg (fun z => by omega)]
    exact F.h0
  · obtain ⟨r, hr⟩ := F.rk
    rw [en]
    exact rank_move ok.lh ok.vh F.h0 hr i1 hi hh ne no
theorem ix_ni {l : List Nat} {i : Nat} (h : i < l.length) : ixN (ni l).length (i : Int) = some i := by
  unfold ixN
  rw [if_pos (by omega), if_pos (by rw [ni_len]; omega)]
  rfl
theorem ni_set (l : List Nat) (i v : Nat) : (ni l).set i (.int (v : Nat)) = ni (l.set i v) := List.map_set.symm
/-! ### what a tree tells -/
def srtN (l : List Nat) : List Nat := l.mergeSort fun a b => decide (a ≤ b)
theorem srtN_perm (l : List Nat) : (srtN l).Perm l := List.mergeSort_perm ..
theorem srtN_pw (l : List Nat) : (srtN l).Pairwise (· ≤ ·) := by
  have := List.pairwise_mergeSort (le := fun a b : Nat => decide (a ≤ b)) (fun a b c h1 h2 => by
    rw [decide_eq_true_eq] at *
    omega) (fun a b => by
    rcases Nat.le_total a b with h | h <;> simp [h]) l
  exact this.imp fun h => of_decide_eq_true h
theorem srt_uniq {a b : List Nat} (ha : a.Pairwise (· ≤ ·)) (hb : b.Pairwise (· ≤ ·)) (h : a.Perm b) : a = b := h.eq_of_pairwise (fun _ _ _ _ h1 h2 => Nat.le_antisymm h1 h2) ha hb
theorem srt_int {ys : List Int} {l : List Nat} (h : ys.Perm (l.map fun n => ((n : Nat) : Int))) (p : ys.Pairwise (· ≤ ·)) : ys = (srtN l).map fun n => ((n : Nat) : Int) := by
  refine (h.trans ((srtN_perm l).symm.map _)).eq_of_pairwise (fun _ _ _ _ h1 h2 => Int.le_antisymm h1 h2) p ?_
  exact List.pairwise_map.mpr ((srtN_pw l).imp fun h => by omega)
abbrev TRow : Type := List Nat × Nat × Nat × Nat
def rowT (T : Tr) (t : Nat) : TRow := (srtN (T.mks.getD t []), T.hol.getD t 0, T.bes.getD t 0, T.fir.getD t 0)
def rowsT (T : Tr) : List TRow := (List.range' 1 T.n).map (rowT T)
def RowAt (H : Hp) (a : Addr) (r : TRow) : Prop := ∃ m : Addr, H a = some (.tup [.ref m, .int (r.2.1 : Nat), .int (r.2.2.1 : Nat), .int (r.2.2.2 : Nat)]) ∧ H m = some (.tup (ni r.1))
theorem RowAt.same {H H' : Hp} {a : Addr} {r : TRow} (h : RowAt H a r) (s : Same H H') : RowAt H' a r := let ⟨m, h1, h2⟩ := h; ⟨m, s _ _ h1, s _ _ h2⟩
theorem RowAt.put {H : Hp} {a D : Addr} {r : TRow} {xs ys : List V} (h : RowAt H a r) (hD : H D = some (.lst xs)) : RowAt (upd H D (.lst ys)) a r := by
  obtain ⟨m, h1, h2⟩ := h
  exact ⟨m, by rw [upd_ne (ne_of h1 hD (by intro z; cases z))]; exact h1, by rw [upd_ne (ne_of h2 hD (by intro z; cases z))]; exact h2⟩
def ToldAt (H : Hp) (p : Addr) (rs : List TRow) : Prop := ∃ as : List Addr, H p = some (.tup (as.map V.ref)) ∧ as.length = rs.length ∧ ∀ (j : Nat) (a : Addr) (r : TRow), as[j]? = some a → rs[j]? = some r → RowAt H a r
theorem ToldAt.same {H H' : Hp} {p : Addr} {rs : List TRow} (h : ToldAt H p rs) (s : Same H H') : ToldAt H' p rs := let ⟨as, h1, h2, h3⟩ := h; ⟨as, s _ _ h1, h2, fun j a r e1 e2 => (h3 j a r e1 e2).same s⟩
def spTold (K : PySem.W.Frag) : Sp := fun vs H Q _ => ∃ (x : Addr) (A : TrO) (T : Tr), vs = [.ref x] ∧ TreeAt K H x A T ∧ TrOk T ∧ ∀ p H', Same H H' → H p = none → ToldAt H' p (rowsT T) → Q (.ref p) H'
theorem sz0 {n : Nat} (h : n ≤ 100000) : -(2 ^ 62) ≤ ((n : Nat) : Int) := by omega
theorem sz1 {n : Nat} (h : n ≤ 100000) : ((n : Nat) : Int) < 2 ^ 62 := by omega
def rowD (r : TRow) : PyData := .tuple [.tuple (r.1.map fun n => .int ((n : Nat) : Int)), .int (r.2.1 : Nat), .int (r.2.2.1 : Nat), .int (r.2.2.2 : Nat)]
def toldD (rs : List TRow) : PyData := .tuple (rs.map rowD)
theorem dp_ni {K : PySem.W.Frag} {H : Hp} : ∀ l : List Nat, DpAll K H (ni l) (l.map fun n => .int ((n : Nat) : Int))
  | [] => .nil
  | _ :: l => .cons (.int _) (dp_ni l)
theorem RowAt.dp {K : PySem.W.Frag} {H : Hp} {a : Addr} {r : TRow} (h : RowAt H a r) : Dp K H (.ref a) (rowD r) := by
  obtain ⟨m, h1, h2⟩ := h
  exact .tup (.inl (.inl h1)) (.cons (.tup (.inl (.inl h2)) (dp_ni _)) (.cons (.int _) (.cons (.int _) (.cons (.int _) .nil))))
theorem dp_rows {K : PySem.W.Frag} {H : Hp} : ∀ {as : List Addr} {rs : List TRow}, as.length = rs.length → (∀ (j : Nat) (a : Addr) (r : TRow), as[j]? = some a → rs[j]? = some r → RowAt H a r) → DpAll K H (as.map V.ref) (rs.map rowD)
  | [], [], _, _ => .nil
  | [], _ :: _, h, _ => by cases h
  | _ :: _, [], h, _ => by cases h
  | a :: as, r :: rs, h, k => .cons (k 0 a r rfl rfl).dp (dp_rows (Nat.succ.inj h) fun j b q e1 e2 => k (j + 1) b q e1 e2)
theorem ToldAt.dp {K : PySem.W.Frag} {H : Hp} {p : Addr} {rs : List TRow} (h : ToldAt H p rs) : Dp K H (.ref p) (toldD rs) := by
  obtain ⟨as, h1, h2, h3⟩ := h
  exact .tup (.inl (.inl h1)) (dp_rows h2 h3)
theorem eqv_ints : ∀ a b : List Nat, PyData.eqvAll (a.map fun n => .int ((n : Nat) : Int)) (b.map fun n => .int ((n : Nat) : Int)) = decide (a = b)
  | [], [] => rfl
  | [], _ :: _ => rfl
  | _ :: _, [] => rfl
  | x :: a, y :: b => by
    rw [List.map_cons, List.map_cons, PyData.eqvAll, eqv_ints a b, PyData.eqv]
    by_cases h : x = y
    · subst h
      simp
    · have : ¬ ((x : Nat) : Int) = ((y : Nat) : Int) := by omega
      simp [h, this]
theorem eqv_row (r q : TRow) : PyData.eqv (rowD r) (rowD q) = decide (r = q) := by
  obtain ⟨a, b, c, d⟩ := r
  obtain ⟨a2, b2, c2, d2⟩ := q
  have e : ∀ x y : Nat, (((x : Nat) : Int) == ((y : Nat) : Int)) = decide (x = y) := fun x y => by
    by_cases h : x = y
    · subst h
      simp
    · have : ¬ ((x : Nat) : Int) = ((y : Nat) : Int) := by omega
      rw [decide_eq_false h]
      exact beq_eq_false_iff_ne.mpr this
  simp only [rowD, PyData.eqv, PyData.eqvAll, eqv_ints, e, Prod.mk.injEq, Bool.decide_and, Bool.and_true]
theorem eqv_rows : ∀ a b : List TRow, PyData.eqvAll (a.map rowD) (b.map rowD) = decide (a = b)
  | [], [] => rfl
  | [], _ :: _ => rfl
  | _ :: _, [] => rfl
  | x :: a, y :: b => by
    rw [List.map_cons, List.map_cons, PyData.eqvAll, eqv_rows a b, eqv_row]
    simp only [List.cons.injEq, Bool.decide_and]
theorem eqv_told (a b : List TRow) : PyData.eqv (toldD a) (toldD b) = decide (a = b) := eqv_rows a b
theorem shp_ints : ∀ l : List Nat, PyData.depthAll (l.map fun n => .int ((n : Nat) : Int)) = 0
  | [] => rfl
  | _ :: l => by simp [PyData.depthAll, PyData.depth, shp_ints l]
theorem shp_row (r : TRow) : (rowD r).depth = 2 := by simp [rowD, PyData.depth, PyData.depthAll, shp_ints]
theorem shp_rows : ∀ l : List TRow, PyData.depthAll (l.map rowD) ≤ 2
  | [] => Nat.zero_le _
  | r :: l => by
    have := shp_rows l
    rw [List.map_cons, PyData.depthAll, shp_row]
    omega
theorem lay_ints : ∀ l : List Nat, PyData.canLayAll0 (l.map fun n => .int ((n : Nat) : Int)) = true
  | [] => rfl
  | _ :: l => by simp [PyData.canLayAll0, PyData.canLay0, lay_ints l]
theorem lay_rows : ∀ l : List TRow, PyData.canLayAll0 (l.map rowD) = true
  | [] => rfl
  | r :: l => by simp [PyData.canLayAll0, PyData.canLay0, rowD, lay_ints, lay_rows l]
theorem lay_told (rs : List TRow) : SeqAt.shaped (toldD rs) = true := by
  have h1 := shp_rows rs
  have h2 : (toldD rs).depth ≤ 64 := by
    rw [toldD, PyData.depth]
    omega
  rw [SeqAt.shaped, decide_eq_true h2, Bool.and_true]
  exact lay_rows rs
def spEqT (K : PySem.W.Frag) : Sp := fun vs H Q _ => ∃ (x y : Addr) (A B : TrO) (T U : Tr), vs = [.ref x, .ref y] ∧ TreeAt K H x A T ∧ TreeAt K H y B U ∧ TrOk T ∧ TrOk U ∧ ∀ H', Same H H' → Q (.bl (decide (rowsT T = rowsT U))) H'
/-! ### good rows are let -/
def spNoPlace : Sp := fun vs H Q _ => ∃ (p : Addr) (hol : List Nat) (n i : Nat) (r : Nat → Nat), vs = [.ref p, .int (i : Nat)] ∧ H p = some (.lst (ni hol)) ∧ hol.length = n + 1 ∧ (∀ v ∈ hol, v ≤ n) ∧ hol.getD 0 0 = 0 ∧ Ranked hol n r ∧ 1 ≤ i ∧ i ≤ n ∧ n ≤ 60 ∧ Q (.bl false) H
def spRowP : Sp := fun vs H Q _ => ∃ (a b : Addr) (hol bes : List Nat) (P : List Nat) (h n f : Nat), vs = [.ref a, .ref b, .int (f : Nat), .int (h : Nat)] ∧ H a = some (.lst (ni hol)) ∧ H b = some (.lst (ni bes)) ∧ n ≤ 60 ∧ hol.length = n + 1 ∧ bes.length = n + 1 ∧ 1 ≤ h ∧ h ≤ n ∧
  (P.Nodup ∧ ∀ t, t ∈ P ↔ 1 ≤ t ∧ t ≤ n ∧ hol.getD t 0 = h) ∧ Chain bes f P ∧ ∀ H', Same H H' → Q (.bl true) H'
def spAreM : Sp := fun vs H Q _ => ∃ (p : Addr) (l : List Nat), vs = [.ref p, .int 32] ∧ H p = some (.tup (ni l)) ∧ l.Pairwise (· < ·) ∧ (∀ m ∈ l, m < 32) ∧ ∀ H', Same H H' → Q (.bl true) H'
def spIsRow : Sp := fun vs H Q _ => ∃ (a : Addr) (r : TRow) (n : Nat), vs = [.ref a, .int 32, .int (n : Nat)] ∧ RowAt H a r ∧ r.1.Pairwise (· < ·) ∧ (∀ m ∈ r.1, m < 32) ∧ r.2.1 ≤ n ∧ r.2.2.1 ≤ n ∧ r.2.2.2 ≤ n ∧ n ≤ 60 ∧ ∀ H', Same H H' → Q (.bl true) H'
theorem tyv_tp {H : Hp} {a : Addr} {xs : List V} (h : H a = some (.tup xs)) : tyv H (.ref a) = some "tuple" := by
  unfold tyv
  dsimp only
  rw [h]
theorem inV_ni {g : Nat} : ∀ ds : List Nat, inV (.int (g : Nat)) (ni ds) = decide (g ∈ ds)
  | [] => rfl
  | d :: ds => by
    have ih := inV_ni (g := g) ds
    show (inV _ (V.int (d : Nat) :: ni ds)) = _
    unfold inV at ih ⊢
    rw [List.any_cons, ih]
    have e : eqV (V.int (d : Nat)) (V.int (g : Nat)) = decide (((d : Nat) : Int) = ((g : Nat) : Int)) := rfl
    rw [e]
    by_cases h : g = d
    · subst h
      simp
    · have h2 : ¬ ((d : Nat) : Int) = ((g : Nat) : Int) := by omega
      rw [decide_eq_false h2, Bool.false_or]
      by_cases h3 : g ∈ ds
      · rw [decide_eq_true h3, decide_eq_true (List.mem_cons_of_mem _ h3)]
      · rw [decide_eq_false h3, decide_eq_false (fun z => (List.mem_cons.mp z).elim h h3)]
theorem flat_ni : ∀ ds : List Nat, (ni ds).all flatV = true
  | [] => rfl
  | _ :: ds => flat_ni ds
/-- rows that a good tree may tell -/
structure RowsOk (rs : List TRow) (hol bes : List Nat) (P : List (List Nat)) (n : Nat) : Prop where
  len : rs.length = n
  n1 : 1 ≤ n
  n60 : n ≤ 60
  row : ∀ r ∈ rs, r.1.Pairwise (· < ·) ∧ (∀ m ∈ r.1, m < 32) ∧ r.2.1 ≤ n ∧ r.2.2.1 ≤ n ∧ r.2.2.2 ≤ n
  eh : hol = 0 :: rs.map fun r => r.2.1
  eb : bes = 0 :: rs.map fun r => r.2.2.1
  mem : ∀ h t, h ≤ n → (t ∈ P.getD h [] ↔ 1 ≤ t ∧ t ≤ n ∧ hol.getD t 0 = h)
  nd : ∀ h, (P.getD h []).Nodup
  ch : ∀ (i : Nat) (r : TRow), rs[i]? = some r → Chain bes r.2.2.2 (P.getD (i + 1) [])
  b0 : ∀ r ∈ rs, r.2.1 = 0 → r.2.2.1 = 0
  rk : ∃ r, Ranked hol n r
def spCheck : Sp := fun vs H Q _ => ∃ (p : Addr) (as : List Addr) (rs : List TRow) (hol bes : List Nat) (P : List (List Nat)) (n : Nat), vs = [.ref p, .int 32] ∧ Sq H p (as.map V.ref) ∧ as.length = rs.length ∧ (∀ (j : Nat) (a : Addr) (r : TRow), as[j]? = some a → rs[j]? = some r → RowAt H a r) ∧ RowsOk rs hol bes P n ∧ ∀ H', Same H H' → Q .non H'
def spComes : Sp := fun vs H Q _ => ∃ (p : Addr) (hol : List Nat) (n i : Nat) (r : Nat → Nat), vs = [.ref p, .int (i : Nat)] ∧ H p = some (.lst (ni hol)) ∧ hol.length = n + 1 ∧ (∀ v ∈ hol, v ≤ n) ∧ Ranked hol n r ∧ 1 ≤ i ∧ i ≤ n ∧ n ≤ 60 ∧ Q (.bl false) H
theorem flat_one {α : Type} (f : Nat → α) (n : Nat) : ((List.range n).map fun i => [f i]).flatten = (List.range n).map f := by
  induction n with
  | zero => rfl
  | succ n ih => simp [List.range_succ, List.map_append, List.flatten_append, ih]
theorem range_getD {l : List Nat} {n : Nat} (h : l.length = n) : (List.range n).map (fun i => V.int (l.getD i 0 : Nat)) = ni l := by
  refine List.ext_getElem (by simp [h]) fun i h1 h2 => ?_
  rw [List.getElem_map, List.getElem_range, List.getElem_map]
  rw [List.length_map] at h2
  rw [List.getD_eq_getElem?_getD, List.getElem?_eq_getElem h2]
  rfl
/-- a pair (holder, marks) at a -/
def PairAt (H : Hp) (a : Addr) (r : Nat × List Nat) : Prop := ∃ m : Addr, H a = some (.tup [.int (r.1 : Nat), .ref m]) ∧ H m = some (.tup (ni r.2))
/-- pairs that a tree is made of -/
structure PairsOk (rs : List (Nat × List Nat)) (n : Nat) : Prop where
  len : rs.length = n
  n1 : 1 ≤ n
  n60 : n ≤ 60
  row : ∀ r ∈ rs, r.1 ≤ n ∧ r.2.length ≤ 40 ∧ ∀ m ∈ r.2, m < 32
  rk : ∃ r, Ranked (0 :: rs.map fun r => r.1) n r
/-- a dict's keys, in the order in which they came first -/
def onceL (l : List Nat) : List Nat := l.foldl (fun a m => if m ∈ a then a else a ++ [m]) []
def mks0 (rs : List (Nat × List Nat)) : List (List Nat) := [] :: rs.map fun r => onceL r.2
/-- the rows of parts of a new tree: ascending -/
def rows0 (rs : List (Nat × List Nat)) (n : Nat) : List (List Nat) := (List.range (n + 1)).map fun h => (List.range' 1 n).filter fun t => decide ((0 :: rs.map fun r => r.1).getD t 0 = h)
def spTree (K : PySem.W.Frag) : Sp := fun vs H Q _ => ∃ (x p dx : Addr) (as : List Addr) (rs : List (Nat × List Nat)) (n : Nat), vs = [.ref x, .ref p] ∧ H x = some (.ins (He.ga K "Tree") dx []) ∧ Sq H p (as.map V.ref) ∧ as.length = rs.length ∧ (∀ (j : Nat) (a : Addr) (r : Nat × List Nat), as[j]? = some a → rs[j]? = some r → PairAt H a r) ∧ PairsOk rs n ∧
  ∀ A T H', Kx x H H' → (∀ a ∈ A.own, H a = none) → TreeAt K H' x A T → TrOk T → T.hol = (0 :: rs.map fun r => r.1) → T.mks = mks0 rs → Forest T (rows0 rs n) → Q .non H'
/-- the constructor's last loop: the things above t stand in their rows -/
structure Fill (hol : List Nat) (n t : Nat) (b f : List Nat) : Prop where
  lb : b.length = n + 1
  lf : f.length = n + 1
  vb : ∀ v ∈ b, v ≤ n
  vf : ∀ v ∈ f, v ≤ n
  ch : ∀ g, 1 ≤ g → g ≤ n → Chain b (f.getD g 0) ((List.range' (t + 1) (n - t)).filter fun u => decide (hol.getD u 0 = g))
  f0 : f.getD 0 0 = 0
  b0 : ∀ u, u ≤ n → hol.getD u 0 = 0 → b.getD u 0 = 0
theorem rep_getD (n i : Nat) : (List.replicate n 0).getD i 0 = 0 := by
  rw [List.getD_eq_getElem?_getD, List.getElem?_replicate]
  split <;> rfl
theorem Fill.zero (hol : List Nat) (n : Nat) : Fill hol n n (List.replicate (n + 1) 0) (List.replicate (n + 1) 0) :=
  ⟨List.length_replicate, List.length_replicate, fun v hv => by rw [(List.mem_replicate.mp hv).2]; exact Nat.zero_le _, fun v hv => by rw [(List.mem_replicate.mp hv).2]; exact Nat.zero_le _,
   fun g _ _ => by rw [Nat.sub_self]; exact rep_getD _ _, rep_getD _ _, fun u _ _ => rep_getD _ _⟩
theorem fill_row {hol : List Nat} {n t : Nat} (ht : t + 1 ≤ n) (g : Nat) : (List.range' (t + 1) (n - t)).filter (fun u => decide (hol.getD u 0 = g)) = if hol.getD (t + 1) 0 = g then (t + 1) :: (List.range' (t + 1 + 1) (n - (t + 1))).filter (fun u => decide (hol.getD u 0 = g)) else (List.range' (t + 1 + 1) (n - (t + 1))).filter fun u => decide (hol.getD u 0 = g) := by
  rw [show n - t = (n - (t + 1)) + 1 by omega, List.range'_succ]
  by_cases h : hol.getD (t + 1) 0 = g
  · rw [if_pos h, List.filter_cons_of_pos (by rw [decide_eq_true h])]
  · rw [if_neg h, List.filter_cons_of_neg (by rw [decide_eq_false h]; decide)]
theorem Fill.root {hol b f : List Nat} {n t : Nat} (h : Fill hol n (t + 1) b f) (ht : t + 1 ≤ n) (e : hol.getD (t + 1) 0 = 0) : Fill hol n t b f :=
  ⟨h.lb, h.lf, h.vb, h.vf, fun g g1 g2 => by
    rw [fill_row ht, if_neg (by omega)]
    exact h.ch g g1 g2, h.f0, h.b0⟩
theorem Fill.step {hol b f : List Nat} {n t g0 : Nat} (h : Fill hol n (t + 1) b f) (ht : t + 1 ≤ n) (e : hol.getD (t + 1) 0 = g0) (h0 : g0 ≠ 0) (hg : g0 ≤ n) : Fill hol n t (b.set (t + 1) (f.getD g0 0)) (f.set g0 (t + 1)) := by
  have nin : ∀ g, t + 1 ∉ (List.range' (t + 1 + 1) (n - (t + 1))).filter fun u => decide (hol.getD u 0 = g) := fun g z => by
    have := List.mem_range'_1.mp (List.mem_filter.mp z).1
    omega
  refine ⟨(List.length_set ..).trans h.lb, (List.length_set ..).trans h.lf, fun v hv => (List.mem_or_eq_of_mem_set hv).elim (h.vb v) fun e => by rw [e]; exact getD_le h.vf, fun v hv => (List.mem_or_eq_of_mem_set hv).elim (h.vf v) fun e => by omega, fun g g1 g2 => ?_, ?_, fun u hu e2 => ?_⟩
  · rw [fill_row ht, e, getD_set]
    have c := chain_set (v := f.getD g0 0) (h.ch g g1 g2) (nin g)
    by_cases q : g0 = g
    · subst q
      rw [if_pos rfl, if_pos ⟨rfl, by rw [h.lf]; omega⟩]
      refine ⟨rfl, by omega, ?_⟩
      rw [getD_set, if_pos ⟨rfl, by rw [h.lb]; omega⟩]
      exact c
    · rw [if_neg q, if_neg (fun z => q z.1)]
      exact c
  · rw [getD_set, if_neg (fun z => h0 z.1)]
    exact h.f0
  · rw [getD_set, if_neg (fun z => by rw [← z.1, e] at e2; exact h0 e2)]
    exact h.b0 u hu e2
theorem rg_ni (n : Nat) : rgV 1 ((n : Nat) + 1) = ni (List.range' 1 n) := by
  unfold rgV
  rw [show ((n : Int) + 1 - 1).toNat = n by omega, ni]
  refine List.ext_getElem (by simp) fun i h1 h2 => ?_
  simp only [List.getElem_map, List.getElem_range, List.getElem_range']
  congr 1
  omega
theorem rep_flat (n : Nat) : (List.replicate ((n : Int) + 1).toNat [V.int 0]).flatten = ni (List.replicate (n + 1) 0) := by
  rw [show ((n : Int) + 1) = ((n + 1 : Nat) : Int) by omega, Int.toNat_natCast, ni, List.map_replicate]
  generalize n + 1 = k
  induction k with
  | zero => rfl
  | succ k ih => rw [List.replicate_succ, List.flatten_cons, ih, List.replicate_succ]; rfl
theorem once_mem : ∀ (l a : List Nat), a.Nodup → (l.foldl (fun a m => if m ∈ a then a else a ++ [m]) a).Nodup ∧ ∀ z, z ∈ l.foldl (fun a m => if m ∈ a then a else a ++ [m]) a ↔ z ∈ a ∨ z ∈ l
  | [], a, h => ⟨h, fun z => by simp⟩
  | m :: l, a, h => by
    rw [List.foldl_cons]
    by_cases g : m ∈ a
    · rw [if_pos g]
      obtain ⟨h1, h2⟩ := once_mem l a h
      refine ⟨h1, fun z => (h2 z).trans ⟨fun k => k.elim .inl fun k => .inr (List.mem_cons_of_mem _ k), fun k => k.elim .inl fun k => (List.mem_cons.mp k).elim (fun e => .inl (by rw [e]; exact g)) .inr⟩⟩
    · rw [if_neg g]
      obtain ⟨h1, h2⟩ := once_mem l (a ++ [m]) (List.nodup_append.mpr ⟨h, by simp, fun x hx y hy e => g (by rw [← List.mem_singleton.mp hy, ← e]; exact hx)⟩)
      refine ⟨h1, fun z => (h2 z).trans ?_⟩
      rw [List.mem_append, List.mem_singleton, List.mem_cons, or_assoc]
theorem once_ok (l : List Nat) : (onceL l).Nodup ∧ ∀ z, z ∈ onceL l ↔ z ∈ l := by
  obtain ⟨h1, h2⟩ := once_mem l [] .nil
  exact ⟨h1, fun z => (h2 z).trans (by simp)⟩
theorem once_sub : ∀ (l a : List Nat), (l.foldl (fun a m => if m ∈ a then a else a ++ [m]) a).Sublist (a ++ l)
  | [], a => by simp
  | m :: l, a => by
    rw [List.foldl_cons]
    refine (once_sub l _).trans ?_
    split
    · exact List.Sublist.append (List.Sublist.refl a) (List.sublist_cons_self m l)
    · rw [List.append_assoc]
      exact List.Sublist.refl _
theorem once_srt (l : List Nat) : onceL (srtN l) = srtN (onceL l) := by
  refine srt_uniq ((srtN_pw l).sublist ?_) (srtN_pw _) ?_
  · have := once_sub (srtN l) []
    rw [List.nil_append] at this
    exact this
  · refine ((List.perm_ext_iff_of_nodup (once_ok _).1 (once_ok _).1).mpr fun z => ?_).trans (srtN_perm _).symm
    rw [(once_ok _).2, (once_ok _).2]
    exact (srtN_perm l).mem_iff
theorem once_take {l : List Nat} {j m : Nat} (h : l[j]? = some m) : onceL (l.take (j + 1)) = if m ∈ onceL (l.take j) then onceL (l.take j) else onceL (l.take j) ++ [m] := by
  unfold onceL
  rw [List.take_add_one, h]
  show List.foldl _ _ (_ ++ [m]) = _
  rw [List.foldl_append]
  rfl
theorem getD_mem {l : List Nat} {i : Nat} (h : i < l.length) : l.getD i 0 ∈ l := by
  rw [List.getD_eq_getElem?_getD, List.getElem?_eq_getElem h]
  exact List.getElem_mem h
/-- the new tree is one -/
theorem Fill.tree {rs : List (Nat × List Nat)} {n : Nat} {b f : List Nat} (R : PairsOk rs n) (h : Fill (0 :: rs.map fun r => r.1) n 0 b f) : TrOk ⟨0 :: rs.map fun r => r.1, b, f, mks0 rs⟩ ∧ Forest ⟨0 :: rs.map fun r => r.1, b, f, mks0 rs⟩ (rows0 rs n) := by
  have en : Tr.n ⟨0 :: rs.map fun r => r.1, b, f, mks0 rs⟩ = n := by
    unfold Tr.n
    rw [List.length_cons, List.length_map, R.len]
    omega
  have vh : ∀ v ∈ (0 :: rs.map fun r => r.1), v ≤ n := fun v hv => by
    rcases List.mem_cons.mp hv with rfl | hv
    · exact Nat.zero_le _
    · obtain ⟨r, hr, rfl⟩ := List.mem_map.mp hv
      exact (R.row r hr).1
  have rg : ∀ g, g ≤ n → (rows0 rs n).getD g [] = (List.range' 1 n).filter fun t => decide ((0 :: rs.map fun r => r.1).getD t 0 = g) := fun g hg => by
    rw [rows0, List.getD_eq_getElem?_getD, List.getElem?_map, List.getElem?_range (by omega)]
    rfl
  refine ⟨⟨by rw [en]; exact R.n1, by rw [en]; exact R.n60, ?_, by rw [en]; exact h.lb, by rw [en]; exact h.lf, ?_, by rw [en]; exact vh, by rw [en]; exact h.vb, by rw [en]; exact h.vf, fun l hl => ?_⟩, ⟨?_, ?_, fun l hl => ?_, ?_, h.f0, ?_, rfl, ?_⟩⟩
  · rw [en, List.length_cons, List.length_map, R.len]
  · show (mks0 rs).length = _
    rw [en, mks0, List.length_cons, List.length_map, R.len]
  · rcases List.mem_cons.mp (show l ∈ [] :: rs.map fun r => onceL r.2 from hl) with rfl | hl
    · exact ⟨.nil, fun m hm => by cases hm⟩
    · obtain ⟨r, hr, rfl⟩ := List.mem_map.mp hl
      obtain ⟨h1, h2⟩ := once_ok r.2
      exact ⟨h1, fun m hm => (R.row r hr).2.2 m ((h2 m).mp hm)⟩
  · rw [en, rows0, List.length_map, List.length_range]
  · intro g t hg
    rw [en] at hg ⊢
    rw [rg g hg, List.mem_filter, List.mem_range'_1, decide_eq_true_eq]
    exact ⟨fun z => ⟨z.1.1, by omega, z.2⟩, fun z => ⟨⟨z.1, by omega⟩, z.2.2⟩⟩
  · obtain ⟨g, hg, rfl⟩ := List.mem_map.mp hl
    exact (List.nodup_range' ..).filter _
  · intro g g1 g2
    rw [en] at g2
    rw [rg g g2]
    exact h.ch g g1 g2
  · intro t ht
    rw [en] at ht
    exact h.b0 t ht
  · rw [en]
    exact R.rk
/-- [.. for x in t], t a name of a list or a tuple, by an invariant -/
theorem lcQI {K : PySem.W.Frag} {a : Addr} {xs : List V} {g : TG} {tt : TT} {te : TE} {vs : List Nat} {σ : L2.St} {H : Hp} {Q : VK} {j : Nat} (Pv : Addr → Nat → Hp → Prop) (hv : σ[j]? = some (some (.ref a))) (hq : Sq H a xs) (h0 : ∀ D, H D = none → Pv D 0 (upd H D (.lst []))) (hS : ∀ D i H', H D = none → Pv D i H' → Same H H')
    (hs : ∀ D, H D = none → ∀ i x H', xs[i]? = some x → Pv D i H' → g x (wipe σ vs) H' fun σ2 H2 => wipe σ2 vs = wipe σ vs ∧ tt σ2 H2 fun b H3 =>
      if b = true then te σ2 H3 fun y H4 => ∃ acc, H4 D = some (.lst acc) ∧ acc.length < sizeLine ∧ Pv D (i + 1) (upd H4 D (.lst (acc ++ [y]))) else Pv D (i + 1) H3)
    (hd : ∀ D H', H D = none → Pv D xs.length H' → Q (.ref D) H') : tLc (iQ K (tVar j)) g tt te vs σ H Q := by
  rcases hq with hq | hq
  · exact .inl ⟨_, hv, a, rfl, ⟨_, .inl (.inl hq)⟩, fun D nD => lc_list (Pv D) (h0 D nD) (fun i H' _ p => .inl (.inl (hS D i H' nD p _ _ hq))) (hs D nD) (fun H' => hd D H' nD)⟩
  · exact .inr ⟨_, hv, a, rfl, ⟨_, .inl (.inl hq)⟩, fun D nD => lc_tup (Pv D) (h0 D nD) (fun i H' _ p => .inl (.inl (hS D i H' nD p _ _ hq))) (hs D nD) (fun H' => hd D H' nD)⟩
/-- Tree.of -/
def spOf (K : PySem.W.Frag) : Sp := fun vs H Q _ => ∃ (p : Addr) (as : List Addr) (rs : List TRow) (hol bes : List Nat) (P : List (List Nat)) (n : Nat), vs = [.ref p] ∧ Sq H p (as.map V.ref) ∧ as.length = rs.length ∧ (∀ (j : Nat) (a : Addr) (r : TRow), as[j]? = some a → rs[j]? = some r → RowAt H a r) ∧ RowsOk rs hol bes P n ∧
  ∀ x A H', Same H H' → (∀ a ∈ x :: A.own, H a = none) → TreeAt K H' x A ⟨hol, bes, 0 :: rs.map fun r => r.2.2.2, [] :: rs.map fun r => r.1⟩ → Q (.ref x) H'
theorem once_id {l : List Nat} (h : l.Nodup) : onceL l = l := by
  have s := once_sub l []
  rw [List.nil_append] at s
  refine s.eq_of_length ?_
  exact ((List.perm_ext_iff_of_nodup (once_ok l).1 h).mpr (once_ok l).2).length_eq
theorem RowsOk.pairs {rs : List TRow} {hol bes : List Nat} {P : List (List Nat)} {n : Nat} (R : RowsOk rs hol bes P n) : PairsOk (rs.map fun r => (r.2.1, r.1)) n := by
  refine ⟨by rw [List.length_map]; exact R.len, R.n1, R.n60, fun r hr => ?_, ?_⟩
  · obtain ⟨q, hq, rfl⟩ := List.mem_map.mp hr
    have h := R.row q hq
    have := nodup_lt (h.1.imp fun h => Nat.ne_of_lt h) (n := 32) h.2.1
    exact ⟨h.2.2.1, (by show q.1.length ≤ 40; omega), h.2.1⟩
  · have := R.rk
    rw [R.eh] at this
    rw [List.map_map]
    exact this
theorem RowsOk.mks {rs : List TRow} {hol bes : List Nat} {P : List (List Nat)} {n : Nat} (R : RowsOk rs hol bes P n) : mks0 (rs.map fun r => (r.2.1, r.1)) = [] :: rs.map fun r => r.1 := by
  rw [mks0, List.map_map]
  congr 1
  refine List.map_congr_left fun r hr => once_id ((R.row r hr).1.imp fun h => Nat.ne_of_lt h)
theorem TreeAt.own_some {K : PySem.W.Frag} {H : Hp} {x : Addr} {A : TrO} {T : Tr} (L : TreeAt K H x A T) {a : Addr} (z : a ∈ x :: A.own) : ∃ o, H a = some o := by
  obtain ⟨dx, hx⟩ := L.ins
  simp only [TrO.own, List.mem_cons] at z
  rcases z with rfl | rfl | rfl | rfl | rfl | rfl | z
  · exact ⟨_, hx⟩
  · exact ⟨_, L.hol⟩
  · exact ⟨_, L.mr⟩
  · exact ⟨_, L.bes⟩
  · exact ⟨_, L.fir⟩
  · exact ⟨_, L.num⟩
  · obtain ⟨j, hj⟩ := List.getElem?_of_mem z
    have := (List.getElem?_eq_some_iff.mp hj).1
    exact ⟨_, L.ds j _ _ hj (List.getElem?_eq_getElem (by rw [← L.dl]; exact this))⟩
theorem TreeAt.nown {K : PySem.W.Frag} {H : Hp} {x q : Addr} {A : TrO} {T : Tr} (L : TreeAt K H x A T) (n : H q = none) : q ∉ A.own := fun z => by
  obtain ⟨o, e⟩ := L.own_some (List.mem_cons_of_mem x z)
  rw [n] at e
  cases e
/-- another list of besides, of firsts -/
theorem TreeAt.fBes {K : PySem.W.Frag} {H : Hp} {x dx q : Addr} {A : TrO} {T : Tr} {l : List Nat} (h : TreeAt K H x A T) (hx : H x = some (.ins (He.ga K "Tree") dx (trF A))) (hq : H q = some (.lst (ni l))) (nq : q ∉ A.own) : TreeAt K (upd H x (.ins (He.ga K "Tree") dx (trF { A with bes := q }))) x { A with bes := q } ⟨T.hol, l, T.fir, T.mks⟩ := by
  have k : ∀ {a : Addr} {o : HO}, H a = some o → (∀ C dx fs, o ≠ .ins C dx fs) → (upd H x (.ins (He.ga K "Tree") dx (trF { A with bes := q }))) a = some o := fun h no => by
    rw [upd_ne (ne_of h hx (fun e => no _ _ _ e))]
    exact h
  obtain ⟨⟨a1, a2, a3, a4⟩, ⟨b1, b2, b3⟩, ⟨c1, c2⟩, d1⟩ := h.nes
  simp only [TrO.own, List.mem_cons, not_or] at nq
  obtain ⟨q1, q2, q3, q4, q5, q6⟩ := nq
  refine ⟨⟨dx, upd_same⟩, k h.hol (by intro _ _ _ e; cases e), k hq (by intro _ _ _ e; cases e), k h.fir (by intro _ _ _ e; cases e), k h.num (by intro _ _ _ e; cases e), k h.mr (by intro _ _ _ e; cases e), h.dl, fun i d l e1 e2 => k (h.ds i d l e1 e2) (by intro _ _ _ e; cases e), h.nd, ?_⟩
  simp only [List.nodup_cons, List.mem_cons, List.not_mem_nil, or_false, not_or, not_false_eq_true, List.nodup_nil, and_true]
  exact ⟨⟨Ne.symm q1, a2, a3, a4⟩, ⟨q4, q5, q2⟩, ⟨c1, c2⟩, d1⟩
theorem TreeAt.fFir {K : PySem.W.Frag} {H : Hp} {x dx q : Addr} {A : TrO} {T : Tr} {l : List Nat} (h : TreeAt K H x A T) (hx : H x = some (.ins (He.ga K "Tree") dx (trF A))) (hq : H q = some (.lst (ni l))) (nq : q ∉ A.own) : TreeAt K (upd H x (.ins (He.ga K "Tree") dx (trF { A with fir := q }))) x { A with fir := q } ⟨T.hol, T.bes, l, T.mks⟩ := by
  have k : ∀ {a : Addr} {o : HO}, H a = some o → (∀ C dx fs, o ≠ .ins C dx fs) → (upd H x (.ins (He.ga K "Tree") dx (trF { A with fir := q }))) a = some o := fun h no => by
    rw [upd_ne (ne_of h hx (fun e => no _ _ _ e))]
    exact h
  obtain ⟨⟨a1, a2, a3, a4⟩, ⟨b1, b2, b3⟩, ⟨c1, c2⟩, d1⟩ := h.nes
  simp only [TrO.own, List.mem_cons, not_or] at nq
  obtain ⟨q1, q2, q3, q4, q5, q6⟩ := nq
  refine ⟨⟨dx, upd_same⟩, k h.hol (by intro _ _ _ e; cases e), k h.bes (by intro _ _ _ e; cases e), k hq (by intro _ _ _ e; cases e), k h.num (by intro _ _ _ e; cases e), k h.mr (by intro _ _ _ e; cases e), h.dl, fun i d l e1 e2 => k (h.ds i d l e1 e2) (by intro _ _ _ e; cases e), h.nd, ?_⟩
  simp only [List.nodup_cons, List.mem_cons, List.not_mem_nil, or_false, not_or, not_false_eq_true, List.nodup_nil, and_true]
  exact ⟨⟨a1, Ne.symm q1, a3, a4⟩, ⟨Ne.symm q3, b2, b3⟩, ⟨q5, q2⟩, d1⟩
/-- what a good tree tells is let -/
theorem srtN_lt {l : List Nat} (h : l.Nodup) : (srtN l).Pairwise (· < ·) := by
  have n : (srtN l).Nodup := (srtN_perm l).nodup_iff.mpr h
  rw [List.nodup_iff_pairwise_ne] at n
  exact ((srtN_pw l).and n).imp fun h => Nat.lt_of_le_of_ne h.1 h.2
theorem list_of_getD {l : List Nat} {n : Nat} (h : l.length = n + 1) (f : Nat → Nat) (h0 : l.getD 0 0 = 0) (hf : ∀ t, 1 ≤ t → t ≤ n → l.getD t 0 = f t) : l = 0 :: (List.range' 1 n).map f := by
  refine List.ext_getElem (by simp [h]) fun i h1 h2 => ?_
  have e : l[i] = l.getD i 0 := by rw [List.getD_eq_getElem?_getD, List.getElem?_eq_getElem h1]; rfl
  rw [e]
  cases i with
  | zero => exact h0
  | succ i =>
    rw [List.getElem_cons_succ, List.getElem_map, List.getElem_range', hf (i + 1) (by omega) (by omega)]
    congr 1
    omega
theorem rowsT_ok {T : Tr} {P : List (List Nat)} (ok : TrOk T) (F : Forest T P) : RowsOk (rowsT T) T.hol T.bes P T.n ∧ T.fir = 0 :: (rowsT T).map fun r => r.2.2.2 := by
  refine ⟨⟨by rw [rowsT, List.length_map, List.length_range'], ok.n1, ok.n60, fun r hr => ?_, ?_, ?_, F.mem, fun h => nodup_row F h, fun i r hr => ?_, fun r hr h0 => ?_, F.rk⟩, ?_⟩
  · obtain ⟨t, ht, rfl⟩ := List.mem_map.mp hr
    have ht := List.mem_range'_1.mp ht
    have hm : T.mks.getD t [] ∈ T.mks := by
      rw [List.getD_eq_getElem?_getD, List.getElem?_eq_getElem (by rw [ok.lm]; omega)]
      exact List.getElem_mem _
    have := ok.vm _ hm
    exact ⟨srtN_lt this.1, fun m hm => this.2 m ((srtN_perm _).mem_iff.mp hm), getD_le ok.vh, getD_le ok.vb, getD_le ok.vf⟩
  · rw [rowsT, List.map_map]
    exact list_of_getD ok.lh _ F.h0 fun t _ _ => rfl
  · rw [rowsT, List.map_map]
    exact list_of_getD ok.lb _ (F.b0 0 (Nat.zero_le _) F.h0) fun t _ _ => rfl
  · rw [rowsT, List.getElem?_map] at hr
    have hi : i < (List.range' 1 T.n).length := by
      cases e : (List.range' 1 T.n)[i]? with
      | none => rw [e] at hr; cases hr
      | some z => exact (List.getElem?_eq_some_iff.mp e).1
    rw [List.getElem?_eq_getElem hi, List.getElem_range'] at hr
    cases hr
    rw [List.length_range'] at hi
    rw [show 1 + 1 * i = i + 1 by omega]
    exact F.ch (i + 1) (by omega) (by omega)
  · obtain ⟨t, ht, rfl⟩ := List.mem_map.mp hr
    have ht := List.mem_range'_1.mp ht
    exact F.b0 t (by omega) h0
  · rw [rowsT, List.map_map]
    exact list_of_getD ok.lf _ F.f0 fun t _ _ => rfl
theorem rowsT_mks {T : Tr} (ok : TrOk T) (m0 : T.mks.getD 0 [] = []) : ([] :: (rowsT T).map fun r => r.1) = T.mks.map srtN := by
  rw [rowsT, List.map_map]
  refine List.ext_getElem (by simp [ok.lm]) fun i h1 h2 => ?_
  rw [List.length_map] at h2
  rw [List.getElem_map]
  cases i with
  | zero =>
    have : T.mks[0] = [] := by
      rw [List.getD_eq_getElem?_getD, List.getElem?_eq_getElem h2] at m0
      exact m0
    rw [this]
    simp [srtN]
  | succ i =>
    rw [List.getElem_cons_succ, List.getElem_map, List.getElem_range']
    show srtN (T.mks.getD _ []) = _
    rw [show 1 + 1 * i = i + 1 by omega, List.getD_eq_getElem?_getD, List.getElem?_eq_getElem h2]
    rfl
def spCopy (K : PySem.W.Frag) : Sp := fun vs H Q _ => ∃ (x : Addr) (A : TrO) (T : Tr) (P : List (List Nat)), vs = [.ref x] ∧ TreeAt K H x A T ∧ TrOk T ∧ Forest T P ∧ T.mks.getD 0 [] = [] ∧
  ∀ y B H', Same H H' → (∀ a ∈ y :: B.own, H a = none) → TreeAt K H' y B ⟨T.hol, T.bes, T.fir, T.mks.map srtN⟩ → Q (.ref y) H'
/-! ### the law's own lists -/
def spChoiceL : Sp := fun vs H Q _ => ∃ (b p : Addr) (xs : List V), vs = [.ref b, .ref p] ∧ Bag H b ∧ H p = some (.lst xs) ∧ 0 < xs.length ∧ xs.length ≤ 100000 ∧ ∀ (v : V) (H' : Hp), v ∈ xs → Kp b H H' → Q v H'
def spOneIn : Sp := fun vs H Q _ => ∃ (b : Addr) (m : Int), vs = [.ref b, .int m] ∧ Bag H b ∧ 0 < m ∧ m < 1073741824 ∧ ∀ (c : Bool) (H' : Hp), Kp b H H' → Q (.bl c) H'
def spShuf : Sp := fun vs H Q _ => ∃ (b p : Addr) (xs : List V), vs = [.ref b, .ref p] ∧ Bag H b ∧ H p = some (.lst xs) ∧ xs.length ≤ 1000 ∧ ∀ q ys H', List.Perm ys xs → Kp b H H' → H q = none → H' q = some (.lst ys) → Q (.ref q) H'
def spOnce : Sp := fun vs H Q _ => ∃ (p : Addr) (l : List Nat), vs = [.ref p] ∧ Sq H p (ni l) ∧ l.length ≤ 1000 ∧ ∀ q H', Same H H' → H q = none → H' q = some (.lst (ni (srtN (onceL l)))) → Q (.ref q) H'
/-- drawn holders: they lead to 0 -/
structure HolOk (hol : List Nat) (n : Nat) : Prop where
  len : hol.length = n + 1
  h0 : hol.getD 0 0 = 0
  vh : ∀ v ∈ hol, v ≤ n
  rk : ∃ r, Ranked hol n r
def spHolders : Sp := fun vs H Q _ => ∃ (b : Addr) (n : Nat), vs = [.ref b, .int (n : Nat)] ∧ Bag H b ∧ 1 ≤ n ∧ n ≤ 60 ∧ ∀ q hol H', Kp b H H' → H q = none → H' q = some (.lst (ni hol)) → HolOk hol n → Q (.ref q) H'
/-- a list of pairs at q, all of it made since H -/
structure PairsAt (H : Hp) (q : Addr) (as : List Addr) (rs : List (Nat × List Nat)) : Prop where
  h : H q = some (.lst (as.map V.ref))
  la : as.length = rs.length
  row : ∀ (j : Nat) (a : Addr) (r : Nat × List Nat), as[j]? = some a → rs[j]? = some r → PairAt H a r
def spPairs : Sp := fun vs H Q _ => ∃ (b : Addr) (n : Nat), vs = [.ref b, .int (n : Nat)] ∧ Bag H b ∧ 1 ≤ n ∧ n ≤ 60 ∧ ∀ q as rs H', Kp b H H' → H q = none → PairsAt H' q as rs → PairsOk rs n → (∀ r ∈ rs, r.2.length ≤ 3) → Q (.ref q) H'
/-- a row in which each thing but the first stands behind its holder (or is held by none) -/
theorem rank_order {order : List Nat} {n : Nat} {hol : List Nat} (lh : hol.length = n + 1) (vh : ∀ v ∈ hol, v ≤ n) (nd : order.Nodup) (mem : ∀ t, t ∈ order ↔ 1 ≤ t ∧ t ≤ n)
    (h : ∀ t, hol.getD t 0 = 0 ∨ ∃ i j : Nat, i < j ∧ order[i]? = some (hol.getD t 0) ∧ order[j]? = some t) : ∃ r, Ranked hol n r := by
  refine rank_bd vh (r := fun t : Nat => if t = 0 then (0 : Nat) else order.idxOf t + 1) fun t t1 t2 => ?_
  rw [if_neg (by omega : ¬ t = 0)]
  rcases h t with e | ⟨i, j, lt, hi, hj⟩
  · rw [e, if_pos rfl]
    omega
  · have h1 := List.mem_of_getElem? hi
    have h2 := (mem _).mp h1
    rw [if_neg (by omega)]
    have li := (List.getElem?_eq_some_iff.mp hi)
    have lj := (List.getElem?_eq_some_iff.mp hj)
    obtain ⟨li, ei⟩ := li
    obtain ⟨lj, ej⟩ := lj
    have e1 : order.idxOf (hol.getD t 0) = i := by rw [← ei]; exact List.Nodup.idxOf_getElem nd i li
    have e2 : order.idxOf t = j := by
      have := List.Nodup.idxOf_getElem nd j lj
      rw [ej] at this
      exact this
    rw [e1, e2]
    omega
theorem perm_ni {ys : List V} {l : List Nat} (h : ys.Perm (ni l)) : ∃ l', ys = ni l' ∧ l'.Perm l := by
  have g : ∀ y ∈ ys, ∃ m : Nat, y = V.int (m : Nat) := fun y hy => by
    obtain ⟨m, _, e⟩ := List.mem_map.mp (h.mem_iff.mp hy)
    exact ⟨m, e.symm⟩
  have back : ∀ zs : List V, (∀ y ∈ zs, ∃ m : Nat, y = V.int (m : Nat)) → ∃ l', zs = ni l' := by
    intro zs
    induction zs with
    | nil => exact fun _ => ⟨[], rfl⟩
    | cons z zs ih =>
      intro k
      obtain ⟨m, rfl⟩ := k z List.mem_cons_self
      obtain ⟨l', rfl⟩ := ih fun y hy => k y (List.mem_cons_of_mem _ hy)
      exact ⟨m :: l', rfl⟩
  obtain ⟨l', rfl⟩ := back ys g
  refine ⟨l', rfl, ?_⟩
  have f : ∀ l : List Nat, (ni l).map (fun v => match v with | .int i => i.toNat | _ => 0) = l := fun l => by
    rw [ni, List.map_map]
    refine (List.map_congr_left fun x _ => ?_).trans (List.map_id _)
    show ((x : Nat) : Int).toNat = x
    omega
  have := h.map (fun v => match v with | .int i => i.toNat | _ => 0)
  rw [f, f] at this
  exact this
theorem seqIx {i n : Nat} (h : i < n) : seqIndex? (i : Int) n = some i := by
  unfold seqIndex?
  have e : ¬ ((i : Int) < 0) := by omega
  simp only [e, if_false]
  rw [if_pos (by simp; omega)]
  rfl
theorem eidx_perm {α : Type} {l : List α} {m : Nat} (h : m < l.length) : (l[m] :: l.eraseIdx m).Perm l := by
  rw [List.eraseIdx_eq_take_drop_succ]
  refine List.perm_middle.symm.trans ?_
  rw [← List.drop_eq_getElem_cons h, List.take_append_drop]
theorem ni_nat {n : Int} (h : 0 ≤ n) : ∃ m : Nat, n = (m : Nat) := ⟨n.toNat, by omega⟩
/-! ### the law's model of a tree -/
structure Mo where
  hl : Addr
  pp : Addr
  mm : Addr
  pa : List Addr
  ma : List Addr
def modKV (n : Nat) (C : Mo) : List (Key × V) := [(.inr "many", .int (n : Nat)), (.inr "holders", .ref C.hl), (.inr "parts", .ref C.pp), (.inr "marks", .ref C.mm)]
def Mo.own (C : Mo) : List Addr := C.hl :: C.pp :: C.mm :: (C.pa ++ C.ma)
structure ModAt (H : Hp) (d : Addr) (C : Mo) (hol : List Nat) (P mks : List (List Nat)) : Prop where
  d : H d = some (.dK (modKV (hol.length - 1) C))
  hl : H C.hl = some (.lst (ni hol))
  pp : H C.pp = some (.lst (C.pa.map V.ref))
  mm : H C.mm = some (.lst (C.ma.map V.ref))
  lp : C.pa.length = P.length
  lm : C.ma.length = mks.length
  pa : ∀ (i : Nat) (a : Addr) (l : List Nat), C.pa[i]? = some a → P[i]? = some l → H a = some (.lst (ni l))
  ma : ∀ (i : Nat) (a : Addr) (l : List Nat), C.ma[i]? = some a → mks[i]? = some l → H a = some (.lst (ni (srtN l)))
  nd : C.own.Nodup
theorem nodup_set {α : Type} {l : List α} {i : Nat} {q : α} (h : l.Nodup) (hq : q ∉ l) : (l.set i q).Nodup := by
  rw [List.nodup_iff_pairwise_ne, List.pairwise_iff_getElem] at *
  intro a b ha hb lt
  rw [List.length_set] at ha hb
  rw [List.getElem_set, List.getElem_set]
  split
  · split
    · omega
    · exact fun e => hq (by rw [e]; exact List.getElem_mem _)
  · split
    · exact fun e => hq (by rw [← e]; exact List.getElem_mem _)
    · exact h a b ha hb lt
section
variable {H H' : Hp} {d : Addr} {C : Mo} {hol : List Nat} {P mks : List (List Nat)}
theorem ModAt.cong (M : ModAt H d C hol P mks) (h : ∀ a ∈ d :: C.own, ∀ o, H a = some o → H' a = some o) : ModAt H' d C hol P mks where
  d := h _ List.mem_cons_self _ M.d
  hl := h _ (by simp [Mo.own]) _ M.hl
  pp := h _ (by simp [Mo.own]) _ M.pp
  mm := h _ (by simp [Mo.own]) _ M.mm
  lp := M.lp
  lm := M.lm
  pa := fun i a l e1 e2 => h _ (by have := List.mem_of_getElem? e1; simp [Mo.own, this]) _ (M.pa i a l e1 e2)
  ma := fun i a l e1 e2 => h _ (by have := List.mem_of_getElem? e1; simp [Mo.own, this]) _ (M.ma i a l e1 e2)
  nd := M.nd
theorem ModAt.same (M : ModAt H d C hol P mks) (s : Same H H') : ModAt H' d C hol P mks := M.cong fun a _ o h => s a o h
theorem ModAt.kf {F : Addr → Prop} (M : ModAt H d C hol P mks) (k : Kf F H H') (n : ∀ a ∈ d :: C.own, ¬ F a) : ModAt H' d C hol P mks := M.cong fun a ha o h => k a o (n a ha) h
theorem ModAt.lst (M : ModAt H d C hol P mks) {a : Addr} (h : a ∈ C.own) : ∃ xs, H a = some (.lst xs) := by
  simp only [Mo.own, List.mem_cons, List.mem_append] at h
  rcases h with rfl | rfl | rfl | h | h
  · exact ⟨_, M.hl⟩
  · exact ⟨_, M.pp⟩
  · exact ⟨_, M.mm⟩
  · obtain ⟨i, hi⟩ := List.getElem?_of_mem h
    have := (List.getElem?_eq_some_iff.mp hi).1
    exact ⟨_, M.pa i a _ hi (List.getElem?_eq_getElem (by rw [← M.lp]; exact this))⟩
  · obtain ⟨i, hi⟩ := List.getElem?_of_mem h
    have := (List.getElem?_eq_some_iff.mp hi).1
    exact ⟨_, M.ma i a _ hi (List.getElem?_eq_getElem (by rw [← M.lm]; exact this))⟩
theorem ModAt.kp {b : Addr} (M : ModAt H d C hol P mks) (B : Bag H b) (k : Kp b H H') (n : d ≠ b) : ModAt H' d C hol P mks := M.cong fun a ha o h => k.keep a o (by
  rcases List.mem_cons.mp ha with rfl | ha
  · exact n
  · obtain ⟨xs, hx⟩ := M.lst ha
    exact B.lst hx) h
/-- row i of the parts -/
theorem ModAt.row (M : ModAt H d C hol P mks) {i : Nat} (h : i < P.length) : ∃ a, C.pa[i]? = some a ∧ atI (C.pa.map V.ref) (i : Nat) = some (.ref a) ∧ H a = some (.lst (ni (P.getD i []))) := by
  have hl : i < C.pa.length := by rw [M.lp]; exact h
  refine ⟨_, List.getElem?_eq_getElem hl, atI_get (by rw [List.getElem?_map, List.getElem?_eq_getElem hl]; rfl), ?_⟩
  rw [M.pa i _ _ (List.getElem?_eq_getElem hl) (List.getElem?_eq_getElem h), List.getD_eq_getElem?_getD, List.getElem?_eq_getElem h]
  rfl
theorem ModAt.mrk (M : ModAt H d C hol P mks) {i : Nat} (h : i < mks.length) : ∃ a, C.ma[i]? = some a ∧ atI (C.ma.map V.ref) (i : Nat) = some (.ref a) ∧ H a = some (.lst (ni (srtN (mks.getD i [])))) := by
  have hl : i < C.ma.length := by rw [M.lm]; exact h
  refine ⟨_, List.getElem?_eq_getElem hl, atI_get (by rw [List.getElem?_map, List.getElem?_eq_getElem hl]; rfl), ?_⟩
  rw [M.ma i _ _ (List.getElem?_eq_getElem hl) (List.getElem?_eq_getElem h), List.getD_eq_getElem?_getD, List.getElem?_eq_getElem h]
  rfl
theorem mod_many {n : Nat} : valV (modKV n C) (.inr "many") = some (.int (n : Nat)) := rfl
theorem mod_holders {n : Nat} : valV (modKV n C) (.inr "holders") = some (.ref C.hl) := rfl
theorem mod_parts {n : Nat} : valV (modKV n C) (.inr "parts") = some (.ref C.pp) := rfl
theorem mod_marks {n : Nat} : valV (modKV n C) (.inr "marks") = some (.ref C.mm) := rfl
theorem ModAt.gMany (M : ModAt H d C hol P mks) : DGet H d (.str "many") (some (.int (hol.length - 1 : Nat))) := DGet.k (k := .inr "many") M.d
theorem ModAt.gHol (M : ModAt H d C hol P mks) : DGet H d (.str "holders") (some (.ref C.hl)) := DGet.k (k := .inr "holders") M.d
theorem ModAt.gPar (M : ModAt H d C hol P mks) : DGet H d (.str "parts") (some (.ref C.pp)) := DGet.k (k := .inr "parts") M.d
theorem ModAt.gMrk (M : ModAt H d C hol P mks) : DGet H d (.str "marks") (some (.ref C.mm)) := DGet.k (k := .inr "marks") M.d
theorem ModAt.nds (M : ModAt H d C hol P mks) : (C.hl ≠ C.pp ∧ C.hl ≠ C.mm ∧ C.hl ∉ C.pa ∧ C.hl ∉ C.ma) ∧ (C.pp ≠ C.mm ∧ C.pp ∉ C.pa ∧ C.pp ∉ C.ma) ∧ (C.mm ∉ C.pa ∧ C.mm ∉ C.ma) ∧ C.pa.Nodup ∧ C.ma.Nodup ∧ ∀ a ∈ C.pa, a ∉ C.ma := by
  have := M.nd
  unfold Mo.own at this
  simp only [List.nodup_cons, List.mem_cons, List.mem_append, not_or] at this
  obtain ⟨⟨a1, a2, a3, a4⟩, ⟨b1, b2, b3⟩, ⟨c1, c2⟩, h⟩ := this
  obtain ⟨h1, h2, h3⟩ := List.nodup_append.mp h
  exact ⟨⟨a1, a2, a3, a4⟩, ⟨b1, b2, b3⟩, ⟨c1, c2⟩, h1, h2, fun a ha hb => h3 a ha a hb rfl⟩
/-- one row of parts is changed -/
theorem ModAt.sRow (M : ModAt H d C hol P mks) {i : Nat} {a : Addr} (ha : C.pa[i]? = some a) (l' : List Nat) : ModAt (upd H a (.lst (ni l'))) d C hol (P.set i l') mks := by
  have hi := (List.getElem?_eq_some_iff.mp ha).1
  have hiP : i < P.length := by rw [← M.lp]; exact hi
  have hm := List.mem_of_getElem? ha
  have hla := M.pa i a _ ha (List.getElem?_eq_getElem hiP)
  obtain ⟨⟨a1, a2, a3, a4⟩, ⟨b1, b2, b3⟩, ⟨c1, c2⟩, h1, h2, h3⟩ := M.nds
  refine ⟨?_, ?_, ?_, ?_, by rw [List.length_set]; exact M.lp, M.lm, fun j a' l e1 e2 => ?_, fun j a' l e1 e2 => ?_, M.nd⟩
  · rw [upd_ne (Ne.symm (lst_ne_dk hla M.d))]; exact M.d
  · rw [upd_ne (fun e => a3 (by rw [e]; exact hm))]; exact M.hl
  · rw [upd_ne (fun e => b2 (by rw [e]; exact hm))]; exact M.pp
  · rw [upd_ne (fun e => c1 (by rw [e]; exact hm))]; exact M.mm
  · by_cases e : i = j
    · subst e
      rw [ha] at e1
      cases e1
      rw [List.getElem?_set_self hiP] at e2
      cases e2
      exact upd_same
    · rw [List.getElem?_set_ne e] at e2
      have ne : a' ≠ a := fun z => by
        subst z
        exact e ((List.getElem?_inj hi h1).mp (ha.trans e1.symm))
      rw [upd_ne ne]
      exact M.pa j a' l e1 e2
  · rw [upd_ne (fun e => h3 a hm (by rw [← e]; exact List.mem_of_getElem? e1))]
    exact M.ma j a' l e1 e2
theorem ModAt.sHol (M : ModAt H d C hol P mks) (l' : List Nat) (e : l'.length = hol.length) : ModAt (upd H C.hl (.lst (ni l'))) d C l' P mks := by
  obtain ⟨⟨a1, a2, a3, a4⟩, ⟨b1, b2, b3⟩, ⟨c1, c2⟩, h1, h2, h3⟩ := M.nds
  refine ⟨?_, upd_same, ?_, ?_, M.lp, M.lm, fun j a' l e1 e2 => ?_, fun j a' l e1 e2 => ?_, M.nd⟩
  · rw [upd_ne (Ne.symm (lst_ne_dk M.hl M.d)), e]; exact M.d
  · rw [upd_ne (Ne.symm a1)]; exact M.pp
  · rw [upd_ne (Ne.symm a2)]; exact M.mm
  · rw [upd_ne (fun e => a3 (by rw [← e]; exact List.mem_of_getElem? e1))]
    exact M.pa j a' l e1 e2
  · rw [upd_ne (fun e => a4 (by rw [← e]; exact List.mem_of_getElem? e1))]
    exact M.ma j a' l e1 e2
/-- a new row of marks takes the place of an old one -/
theorem ModAt.sMk (M : ModAt H d C hol P mks) {i : Nat} {q : Addr} {l' : List Nat} (hi : i < mks.length) (hq : H q = some (.lst (ni (srtN l')))) (nq : q ∉ C.own) : ModAt (upd H C.mm (.lst ((C.ma.set i q).map V.ref))) d { C with ma := C.ma.set i q } hol P (mks.set i l') := by
  obtain ⟨⟨a1, a2, a3, a4⟩, ⟨b1, b2, b3⟩, ⟨c1, c2⟩, h1, h2, h3⟩ := M.nds
  have nq2 := nq
  simp only [Mo.own, List.mem_cons, List.mem_append, not_or] at nq2
  obtain ⟨q1, q2, q3, q4, q5⟩ := nq2
  have ms : ∀ a, a ∈ C.ma.set i q → a ∈ C.ma ∨ a = q := fun a h => List.mem_or_eq_of_mem_set h
  refine ⟨?_, ?_, ?_, upd_same, M.lp, by rw [List.length_set, List.length_set]; exact M.lm, fun j a' l e1 e2 => ?_, fun j a' l e1 e2 => ?_, ?_⟩
  · rw [upd_ne (Ne.symm (lst_ne_dk M.mm M.d))]; exact M.d
  · rw [upd_ne a2]; exact M.hl
  · rw [upd_ne b1]; exact M.pp
  · rw [upd_ne (fun e => c1 (by rw [← e]; exact List.mem_of_getElem? e1))]
    exact M.pa j a' l e1 e2
  · have e1 : (C.ma.set i q)[j]? = some a' := e1
    by_cases e : i = j
    · subst e
      rw [List.getElem?_set_self (by rw [M.lm]; exact hi)] at e1
      rw [List.getElem?_set_self hi] at e2
      cases e1
      cases e2
      rw [upd_ne q3]
      exact hq
    · rw [List.getElem?_set_ne e] at e1 e2
      rw [upd_ne (fun e => c2 (by rw [← e]; exact List.mem_of_getElem? e1))]
      exact M.ma j a' l e1 e2
  · show (C.hl :: C.pp :: C.mm :: (C.pa ++ C.ma.set i q)).Nodup
    have nds : (C.ma.set i q).Nodup := nodup_set h2 q5
    simp only [List.nodup_cons, List.mem_cons, List.mem_append, not_or]
    refine ⟨⟨a1, a2, a3, fun z => (ms _ z).elim a4 (Ne.symm q1)⟩, ⟨b1, b2, fun z => (ms _ z).elim b3 (Ne.symm q2)⟩, ⟨c1, fun z => (ms _ z).elim c2 (Ne.symm q3)⟩, List.nodup_append.mpr ⟨h1, nds, fun a ha b hb e => ?_⟩⟩
    subst e
    rcases ms _ hb with z | z
    · exact h3 a ha z
    · exact q4 (by rw [← z]; exact ha)
end
theorem take_getD {l : List Nat} {k : Nat} (h : k < l.length) : l.take (k + 1) = l.take k ++ [l.getD k 0] := by
  rw [List.take_add_one, List.getD_eq_getElem?_getD, List.getElem?_eq_getElem h]
  rfl
def setMarkL (i j g : Nat) (l : List Nat) : List Nat := if g = 0 then stripL j l else giveL i j l
theorem strip_app (j : Nat) (a b : List Nat) : stripL j (a ++ b) = stripL j a ++ stripL j b := List.filter_append ..
theorem strip_one (j m : Nat) : stripL j [m] = if m = j then [] else [m] := by
  unfold stripL
  by_cases h : m = j
  · rw [if_pos h, List.filter_cons_of_neg (by rw [decide_eq_true h]; decide)]
    rfl
  · rw [if_neg h, List.filter_cons_of_pos (by rw [decide_eq_false h]; decide)]
    rfl
theorem strip_len (j : Nat) (a : List Nat) : (stripL j a).length ≤ a.length := List.length_filter_le ..
/-- the law's marks are the sorted ones of the tree's -/
theorem marks_srt {l : List Nat} {i j g : Nat} (nd : l.Nodup) (hi : i ≠ 0) (hg : g ≤ 1) : srtN (stripL j (srtN l) ++ List.replicate g j) = srtN (setMarkL i j g l) := by
  refine srt_uniq (srtN_pw _) (srtN_pw _) ((srtN_perm _).trans (List.Perm.trans ?_ (srtN_perm _).symm))
  have p1 : (stripL j (srtN l)).Perm (stripL j l) := (srtN_perm l).filter _
  unfold setMarkL
  by_cases g0 : g = 0
  · rw [if_pos g0, g0, List.replicate_zero, List.append_nil]
    exact p1
  · have g1 : g = 1 := by omega
    rw [if_neg g0, g1]
    refine (p1.append_right _).trans ?_
    unfold giveL
    by_cases h : j ∈ l
    · rw [if_pos (.inr h)]
      refine (List.perm_ext_iff_of_nodup ?_ nd).mpr fun z => ?_
      · refine List.nodup_append.mpr ⟨nd.filter _, by simp, fun a ha b hb e => ?_⟩
        have hb : b = j := by simpa using hb
        have := (List.mem_filter.mp ha).2
        rw [e, hb] at this
        simp at this
      · rw [List.mem_append]
        unfold stripL
        rw [List.mem_filter]
        constructor
        · rintro (k | k)
          · exact k.1
          · rw [show z = j by simpa using k]
            exact h
        · intro k
          by_cases e : z = j
          · exact .inr (by simp [e])
          · exact .inl ⟨k, by simp [e]⟩
    · rw [if_neg (fun k => k.elim hi h)]
      have : stripL j l = l := List.filter_eq_self.mpr fun a ha => by
        rw [decide_eq_false (fun z => h (by rw [← z]; exact ha))]
        rfl
      rw [this]
      exact List.Perm.refl _
theorem rep_flat1 (g j : Nat) : (List.replicate ((g : Nat) : Int).toNat [V.int (j : Nat)]).flatten = ni (List.replicate g j) := by
  rw [Int.toNat_natCast, ni, List.map_replicate]
  induction g with
  | zero => rfl
  | succ k ih => rw [List.replicate_succ, List.flatten_cons, ih, List.replicate_succ]; rfl
theorem ni_int (l : List Nat) : ni l = (l.map fun n => ((n : Nat) : Int)).map V.int := by
  rw [List.map_map]
  rfl
theorem ni_app (a b : List Nat) : ni (a ++ b) = ni a ++ ni b := List.map_append
theorem ni0 : ([V.int 0] : List V) = ni [0] := rfl
theorem ni1 (n : Nat) : ([V.int (n : Nat)] : List V) = ni [n] := rfl
theorem chain_first {bes : List Nat} {f : Nat} {l : List Nat} (h : Chain bes f l) : (l ++ [0]).getD 0 0 = f := by
  cases l with
  | nil =>
    have h : f = 0 := h
    rw [h]
    rfl
  | cons p l => exact h.1.symm
theorem getD_mid {a c : List Nat} {i : Nat} : (a ++ i :: c ++ [0]).getD (a.length + 1) 0 = (c ++ [0]).getD 0 0 := by
  rw [List.getD_eq_getElem?_getD, List.getD_eq_getElem?_getD, List.append_assoc, List.getElem?_append_right (by omega)]
  rw [show a.length + 1 - a.length = 1 by omega]
  rfl
theorem rows_step {hol : List Nat} {n i : Nat} (hg : hol.getD (i + 1) 0 ≤ n) : (((List.range (n + 1)).map fun h => (List.range' 1 i).filter fun t => decide (hol.getD t 0 = h)).set (hol.getD (i + 1) 0) ((((List.range (n + 1)).map fun h => (List.range' 1 i).filter fun t => decide (hol.getD t 0 = h)).getD (hol.getD (i + 1) 0) []) ++ [i + 1])) = (List.range (n + 1)).map fun h => (List.range' 1 (i + 1)).filter fun t => decide (hol.getD t 0 = h) := by
  have e0 : ((List.range (n + 1)).map fun h => (List.range' 1 i).filter fun t => decide (hol.getD t 0 = h)).getD (hol.getD (i + 1) 0) [] = (List.range' 1 i).filter fun t => decide (hol.getD t 0 = hol.getD (i + 1) 0) := by
    rw [List.getD_eq_getElem?_getD, List.getElem?_map, List.getElem?_range (by omega)]
    rfl
  rw [e0]
  refine List.ext_getElem (by simp) fun j h1 h2 => ?_
  have hj : j < n + 1 := by simpa using h2
  rw [List.getElem_set, List.getElem_map, List.getElem_map, List.getElem_range, List.range'_concat, List.filter_append, show 1 + 1 * i = i + 1 by omega]
  by_cases e : hol.getD (i + 1) 0 = j
  · rw [if_pos e, List.filter_cons_of_pos (by rw [decide_eq_true e]), e]
    rfl
  · rw [if_neg e, List.filter_cons_of_neg (by rw [decide_eq_false e]; decide)]
    simp
theorem lcV {K : PySem.W.Frag} {a : Addr} {xs : List V} {g : TG} {tt : TT} {te : TE} {vs : List Nat} {σ : L2.St} {H : Hp} {Q : VK} {j : Nat} (F : Nat → List V) (hv : σ[j]? = some (some (.ref a))) (hq : H a = some (.lst xs))
    (hs : ∀ D, H D = none → ∀ i x H', xs[i]? = some x → LcP H D F i H' → g x (wipe σ vs) H' fun σ2 H2 => wipe σ2 vs = wipe σ vs ∧ tt σ2 H2 fun b H3 =>
      if b = true then te σ2 H3 fun y H4 => ∃ acc, H4 D = some (.lst acc) ∧ acc.length < sizeLine ∧ LcP H D F (i + 1) (upd H4 D (.lst (acc ++ [y]))) else LcP H D F (i + 1) H3)
    (hd : ∀ D H', H D = none → Same H H' → H' D = some (.lst ((List.range xs.length).map F).flatten) → Q (.ref D) H') : tLc (iList K (tVar j)) g tt te vs σ H Q :=
  ⟨_, hv, a, rfl, ⟨_, .inl (.inl hq)⟩, fun D nD => lcL F nD hq (hs D nD) (fun H' => hd D H' nD)⟩
/-- a list of lists of numbers, all of it made since H0 -/
structure Rows (H0 H : Hp) (D : Addr) (as : List Addr) (ls : List (List Nat)) : Prop where
  h : H D = some (.lst (as.map V.ref))
  la : as.length = ls.length
  row : ∀ (j : Nat) (a : Addr) (l : List Nat), as[j]? = some a → ls[j]? = some l → H a = some (.lst (ni l))
  nd : (D :: as).Nodup
  fr : ∀ a ∈ D :: as, H0 a = none
  sm : Same H0 H
section
variable {H0 H H1 : Hp} {D : Addr} {as : List Addr} {ls : List (List Nat)}
theorem Rows.nil (nD : H0 D = none) : Rows H0 (upd H0 D (.lst [])) D [] [] := ⟨upd_same, rfl, fun j a l e => (by cases e), by simp, fun a ha => by rw [List.mem_singleton.mp ha]; exact nD, same_new nD⟩
theorem Rows.then (R : Rows H0 H D as ls) (s : Same H H1) : Rows H0 H1 D as ls := ⟨s _ _ R.h, R.la, fun j a l e1 e2 => s _ _ (R.row j a l e1 e2), R.nd, R.fr, R.sm.trans s⟩
theorem Rows.some (R : Rows H0 H D as ls) {a : Addr} (h : a ∈ D :: as) : ∃ xs, H a = some (.lst xs) := by
  rcases List.mem_cons.mp h with rfl | h
  · exact ⟨_, R.h⟩
  · obtain ⟨j, hj⟩ := List.getElem?_of_mem h
    have := (List.getElem?_eq_some_iff.mp hj).1
    exact ⟨_, R.row j a _ hj (List.getElem?_eq_getElem (by rw [← R.la]; exact this))⟩
theorem Rows.push (R : Rows H0 H D as ls) (s : Same H H1) {a : Addr} {l : List Nat} (ha : H1 a = .some (.lst (ni l))) (na : H a = none) : Rows H0 (upd H1 D (.lst (as.map V.ref ++ [V.ref a]))) D (as ++ [a]) (ls ++ [l]) := by
  have nin : a ∉ D :: as := fun z => by
    obtain ⟨xs, e⟩ := R.some z
    rw [na] at e
    cases e
  have nD := List.nodup_cons.mp R.nd
  have na0 : H0 a = none := R.sm.free na
  have aD : a ≠ D := fun e => nin (by rw [e]; exact List.mem_cons_self)
  refine ⟨by rw [upd_same, List.map_append]; rfl, by rw [List.length_append, List.length_append, R.la]; rfl, fun j b m e1 e2 => ?_, ?_, fun b hb => ?_, Same.put (R.sm.trans s) (R.fr D List.mem_cons_self)⟩
  · by_cases hj : j < as.length
    · rw [List.getElem?_append_left hj] at e1
      rw [List.getElem?_append_left (by rw [← R.la]; exact hj)] at e2
      rw [upd_ne (fun e => nD.1 (by rw [← e]; exact List.mem_of_getElem? e1))]
      exact s _ _ (R.row j b m e1 e2)
    · have hj2 := (List.getElem?_eq_some_iff.mp e1).1
      rw [List.length_append, List.length_singleton] at hj2
      have ej : j = as.length := by omega
      rw [ej, List.getElem?_append_right (Nat.le_refl _), Nat.sub_self] at e1
      rw [ej, R.la, List.getElem?_append_right (Nat.le_refl _), Nat.sub_self] at e2
      cases e1
      cases e2
      rw [upd_ne aD]
      exact ha
  · rw [← List.cons_append]
    exact List.nodup_append.mpr ⟨R.nd, by simp, fun x hx y hy e => nin (by rw [← List.mem_singleton.mp hy, ← e]; exact hx)⟩
  · rcases List.mem_cons.mp hb with rfl | hb
    · exact R.fr _ List.mem_cons_self
    · rcases List.mem_append.mp hb with h | h
      · exact R.fr b (List.mem_cons_of_mem _ h)
      · rw [List.mem_singleton.mp h]
        exact na0
theorem Rows.set (R : Rows H0 H D as ls) {j : Nat} {a : Addr} (ha : as[j]? = .some a) (l' : List Nat) : Rows H0 (upd H a (.lst (ni l'))) D as (ls.set j l') := by
  have nD := List.nodup_cons.mp R.nd
  have hm := List.mem_of_getElem? ha
  have hj := (List.getElem?_eq_some_iff.mp ha).1
  refine ⟨by rw [upd_ne (fun e => nD.1 (by rw [e]; exact hm))]; exact R.h, by rw [List.length_set]; exact R.la, fun i b m e1 e2 => ?_, R.nd, R.fr, Same.put R.sm (R.fr a (List.mem_cons_of_mem _ hm))⟩
  by_cases e : j = i
  · subst e
    rw [ha] at e1
    cases e1
    rw [List.getElem?_set_self (by rw [← R.la]; exact hj)] at e2
    cases e2
    exact upd_same
  · rw [List.getElem?_set_ne e] at e2
    rw [upd_ne (fun z => by
      subst z
      exact e ((List.getElem?_inj hj nD.2).mp (ha.trans e1.symm)))]
    exact R.row i b m e1 e2
theorem Rows.cons {Ha Hc : Hp} {q e0 : Addr} {l0 : List Nat} (R : Rows H Hc D as ls) (s : Same Ha H) (he : H e0 = .some (.lst (ni l0))) (ne : Ha e0 = none) (nq : Hc q = none) : Rows Ha (upd Hc q (.lst (V.ref e0 :: as.map V.ref))) q (e0 :: as) (l0 :: ls) := by
  have sq := same_new (o := .lst (V.ref e0 :: as.map V.ref)) nq
  have nD := List.nodup_cons.mp R.nd
  have e0n : e0 ∉ as := fun z => by
    have := R.fr e0 (List.mem_cons_of_mem _ z)
    rw [he] at this
    cases this
  have qn : q ∉ e0 :: as := fun z => by
    rcases List.mem_cons.mp z with e | z
    · rw [e, R.sm _ _ he] at nq
      cases nq
    · obtain ⟨xs, h⟩ := R.some (List.mem_cons_of_mem D z)
      rw [nq] at h
      cases h
  refine ⟨by rw [upd_same]; rfl, by rw [List.length_cons, List.length_cons, R.la], fun j a l e1 e2 => ?_, List.nodup_cons.mpr ⟨qn, List.nodup_cons.mpr ⟨e0n, nD.2⟩⟩, fun a ha => ?_, (s.trans R.sm).trans sq⟩
  · cases j with
    | zero =>
      cases e1
      cases e2
      exact sq _ _ (R.sm _ _ he)
    | succ j => exact sq _ _ (R.row j a l e1 e2)
  · rcases List.mem_cons.mp ha with rfl | ha
    · exact s.free (R.sm.free nq)
    · rcases List.mem_cons.mp ha with rfl | ha
      · exact ne
      · exact s.free (R.fr a (List.mem_cons_of_mem _ ha))
theorem Rows.dk (R : Rows H0 H D as ls) {d : Addr} {kvs kvs' : List (Key × V)} (hd : H d = .some (.dK kvs)) (nd : H0 d = none) : Rows H0 (upd H d (.dK kvs')) D as ls :=
  ⟨by rw [upd_ne (lst_ne_dk R.h hd)]; exact R.h, R.la, fun j a l e1 e2 => by
    have h := R.row j a l e1 e2
    rw [upd_ne (lst_ne_dk h hd)]
    exact h, R.nd, R.fr, Same.put R.sm nd⟩
theorem Rows.at_ (R : Rows H0 H D as ls) {i : Nat} (h : i < ls.length) : ∃ a, as[i]? = .some a ∧ atI (as.map V.ref) (i : Nat) = .some (.ref a) ∧ H a = .some (.lst (ni (ls.getD i []))) := by
  have hl : i < as.length := by rw [R.la]; exact h
  refine ⟨_, List.getElem?_eq_getElem hl, atI_get (by rw [List.getElem?_map, List.getElem?_eq_getElem hl]; rfl), ?_⟩
  rw [R.row i _ _ (List.getElem?_eq_getElem hl) (List.getElem?_eq_getElem h), List.getD_eq_getElem?_getD, List.getElem?_eq_getElem h]
  rfl
end
theorem mk_mod {A B h : Hp} {d hl pp mm : Addr} {pa ma : List Addr} {hol : List Nat} {P mks ms : List (List Nat)} (hd : h d = some (.dK (modKV (hol.length - 1) ⟨hl, pp, mm, pa, ma⟩))) (hh : h hl = some (.lst (ni hol))) (R1 : Rows A h pp pa P) (R2 : Rows B h mm ma ms) (e : ms = mks.map srtN) (n1 : hl ∉ pp :: pa) (n2 : hl ∉ mm :: ma) (n3 : ∀ a ∈ pp :: pa, a ∉ mm :: ma) : ModAt h d ⟨hl, pp, mm, pa, ma⟩ hol P mks := by
  subst e
  refine ⟨hd, hh, R1.h, R2.h, R1.la, by rw [R2.la, List.length_map], R1.row, fun i a l e1 e2 => R2.row i a _ e1 (by rw [List.getElem?_map, e2]; rfl), ?_⟩
  have m1 := List.nodup_cons.mp R1.nd
  have m2 := List.nodup_cons.mp R2.nd
  simp only [List.mem_cons, not_or] at n1 n2
  unfold Mo.own
  simp only [List.nodup_cons, List.mem_cons, List.mem_append, not_or]
  have n30 := n3 pp List.mem_cons_self
  simp only [List.mem_cons, not_or] at n30
  refine ⟨⟨n1.1, n2.1, n1.2, n2.2⟩, ⟨n30.1, m1.1, n30.2⟩, ⟨fun z => n3 mm (List.mem_cons_of_mem _ z) List.mem_cons_self, m2.1⟩, List.nodup_append.mpr ⟨m1.2, m2.2, fun a ha b hb e => n3 a (List.mem_cons_of_mem _ ha) (by rw [e]; exact List.mem_cons_of_mem _ hb)⟩⟩
/-- a tree as the law keeps it -/
structure Good (T : Tr) (P : List (List Nat)) : Prop where
  ok : TrOk T
  fo : Forest T P
  m0 : T.mks.getD 0 [] = []
def Dis (a b : List Addr) : Prop := ∀ z ∈ a, z ∉ b
def spModel : Sp := fun vs H Q _ => ∃ (q : Addr) (as : List Addr) (rs : List (Nat × List Nat)) (n : Nat), vs = [.ref q] ∧ PairsAt H q as rs ∧ PairsOk rs n ∧
  ∀ d C H', Same H H' → (∀ a ∈ d :: C.own, H a = none) → ModAt H' d C (0 :: rs.map fun r => r.1) (rows0 rs n) (mks0 rs) → Q (.ref d) H'
def spTwin : Sp := fun vs H Q _ => ∃ (d0 : Addr) (C0 : Mo) (hol : List Nat) (P mks : List (List Nat)), vs = [.ref d0] ∧ ModAt H d0 C0 hol P mks ∧ P.length ≤ 61 ∧ mks.length ≤ 61 ∧
  ∀ d C H', Same H H' → (∀ a ∈ d :: C.own, H a = none) → ModAt H' d C hol P mks → Q (.ref d) H'
def spInside : Sp := fun vs H Q _ => ∃ (d : Addr) (C : Mo) (T : Tr) (P : List (List Nat)) (i j : Nat), vs = [.ref d, .int (i : Nat), .int (j : Nat)] ∧ ModAt H d C T.hol P T.mks ∧ TrOk T ∧ i ≤ T.n ∧ j ≤ T.n ∧ Q (.bl (inside T.hol i T.n (T.hol.getD j 0))) H
def spMoved : Sp := fun vs H Q _ => ∃ (d : Addr) (C : Mo) (T : Tr) (P : List (List Nat)) (i h : Nat), vs = [.ref d, .int (i : Nat), .int (h : Nat)] ∧ ModAt H d C T.hol P T.mks ∧ TrOk T ∧ Forest T P ∧ i ≤ T.n ∧ h ≤ T.n ∧
  (stays T i h = true → Q .non H) ∧ (stays T i h = false → ∀ H', Kf (fun a => a ∈ C.own) H H' → ModAt H' d C (T.hol.set i h) (movedP P (T.hol.getD i 0) h i) T.mks → Q .non H')
def spMarked : Sp := fun vs H Q _ => ∃ (d : Addr) (C : Mo) (T : Tr) (P : List (List Nat)) (i j g : Nat), vs = [.ref d, .int (i : Nat), .int (j : Nat), .int (g : Nat)] ∧ ModAt H d C T.hol P T.mks ∧ Good T P ∧ i ≤ T.n ∧ j < 32 ∧ g ≤ 1 ∧
  ∀ C' H', Kf (fun a => a ∈ C.own) H H' → (∀ a ∈ C'.own, a ∈ C.own ∨ H a = none) → ModAt H' d C' T.hol P (T.mks.set i (setMarkL i j g (T.mks.getD i []))) → Q .non H'
def spLBeside : Sp := fun vs H Q _ => ∃ (d : Addr) (C : Mo) (T : Tr) (P : List (List Nat)) (i : Nat), vs = [.ref d, .int (i : Nat)] ∧ ModAt H d C T.hol P T.mks ∧ Good T P ∧ i ≤ T.n ∧ ∀ H', Same H H' → Q (.int (T.bes.getD i 0 : Nat)) H'
def spLParts : Sp := fun vs H Q _ => ∃ (d : Addr) (C : Mo) (T : Tr) (P : List (List Nat)) (i : Nat), vs = [.ref d, .int (i : Nat)] ∧ ModAt H d C T.hol P T.mks ∧ Good T P ∧ i ≤ T.n ∧ ∀ p H', Same H H' → H p = none → H' p = some (.lst (ni (partsOf P i))) → Q (.ref p) H'
def spLPlace : Sp := fun vs H Q _ => ∃ (d : Addr) (C : Mo) (T : Tr) (P : List (List Nat)) (i : Nat), vs = [.ref d, .int (i : Nat)] ∧ ModAt H d C T.hol P T.mks ∧ Good T P ∧ i ≤ T.n ∧ Q (.int (topN T.hol T.n i : Nat)) H
def spLTold : Sp := fun vs H Q _ => ∃ (d : Addr) (C : Mo) (T : Tr) (P : List (List Nat)), vs = [.ref d] ∧ ModAt H d C T.hol P T.mks ∧ Good T P ∧ ∀ p H', Same H H' → H p = none → ToldAt H' p (rowsT T) → Q (.ref p) H'
/-- data that repr shows -/
structure Sho (K : PySem.W.Frag) (H : Hp) (v : V) (d : PyData) : Prop where
  dp : Dp K H v d
  sh : d.showable = true
  nd : d.hasDict = false
  dep : d.depth ≤ 50
  len : d.shown.length ≤ sizeLine
structure OkD (w k : Nat) (d : PyData) : Prop where
  sh : d.showable = true
  nd : d.hasDict = false
  ls : d.leavesShort 13 = true
  wt : d.weight ≤ w
  dp : d.depth ≤ k
theorem OkD.sho {K : PySem.W.Frag} {H : Hp} {v : V} {d : PyData} {w k : Nat} (h : OkD w k d) (dp : Dp K H v d) (hw : w ≤ 2 ^ 20) (hk : k ≤ 50) : Sho K H v d :=
  ⟨dp, h.sh, h.nd, Nat.le_trans h.dp hk, PyData.shown_fits (by decide) (by decide) h.ls (Nat.le_trans h.wt hw)⟩
theorem okD_int {i : Int} (h : i.natAbs < 10 ^ 6) : OkD 21 0 (.int i) := by
  have l20 : i.natAbs.log2 < 20 := PySem.Flt.log2_lt_of (by decide) (Nat.lt_trans h (by decide : 10 ^ 6 < 2 ^ 20))
  refine ⟨decide_eq_true (Nat.lt_trans l20 (by decide)), rfl, ?_, ?_, by simp [PyData.depth]⟩
  · simp only [PyData.leavesShort, decide_eq_true_eq]
    exact PyData.shown_int_le (Nat.lt_trans h (by decide))
  · simp only [PyData.weight]
    split <;> omega
theorem okD_bool (b : Bool) : OkD 1 0 (.bool b) := ⟨rfl, rfl, rfl, by simp [PyData.weight], by simp [PyData.depth]⟩
theorem okD_all {w k : Nat} : ∀ {ds : List PyData}, (∀ d ∈ ds, OkD w k d) → PyData.showableAll ds = true ∧ PyData.hasDictAll ds = false ∧ PyData.leavesShortAll 13 ds = true ∧ PyData.weightAll ds ≤ (w + 1) * ds.length ∧ PyData.depthAll ds ≤ k
  | [], _ => ⟨rfl, rfl, rfl, Nat.zero_le _, Nat.zero_le _⟩
  | d :: ds, h => by
    have hd := h d List.mem_cons_self
    obtain ⟨h1, h2, h3, h4, h5⟩ := okD_all fun x hx => h x (List.mem_cons_of_mem _ hx)
    refine ⟨by simp [PyData.showableAll, hd.sh, h1], by simp [PyData.hasDictAll, hd.nd, h2], by simp [PyData.leavesShortAll, hd.ls, h3], ?_, ?_⟩
    · have := hd.wt
      rw [PyData.weightAll, List.length_cons, Nat.mul_add]
      omega
    · have := hd.dp
      rw [PyData.depthAll]
      omega
theorem okD_tup {w k : Nat} {ds : List PyData} (h : ∀ d ∈ ds, OkD w k d) : OkD ((w + 1) * ds.length + 1) (k + 1) (.tuple ds) := by
  obtain ⟨h1, h2, h3, h4, h5⟩ := okD_all h
  refine ⟨by simp [PyData.showable, h1], by simp [PyData.hasDict, h2], by simp [PyData.leavesShort, h3], ?_, ?_⟩
  · simp only [PyData.weight]
    omega
  · simp only [PyData.depth]
    omega
theorem okD_lst {w k : Nat} {ds : List PyData} (h : ∀ d ∈ ds, OkD w k d) : OkD ((w + 1) * ds.length + 1) (k + 1) (.list ds) := by
  obtain ⟨h1, h2, h3, h4, h5⟩ := okD_all h
  refine ⟨by simp [PyData.showable, h1], by simp [PyData.hasDict, h2], by simp [PyData.leavesShort, h3], ?_, ?_⟩
  · simp only [PyData.weight]
    omega
  · simp only [PyData.depth]
    omega
theorem OkD.mono {w w' k k' : Nat} {d : PyData} (h : OkD w k d) (hw : w ≤ w') (hk : k ≤ k') : OkD w' k' d := ⟨h.sh, h.nd, h.ls, Nat.le_trans h.wt hw, Nat.le_trans h.dp hk⟩
theorem okD_ints {l : List Nat} {n : Nat} (hl : l.length ≤ n) (h : ∀ m ∈ l, m < 10 ^ 6) : OkD (22 * n + 1) 1 (.tuple (l.map fun m => .int ((m : Nat) : Int))) := by
  have := okD_tup (w := 21) (k := 0) (ds := l.map fun m => PyData.int ((m : Nat) : Int)) fun d hd => by
    obtain ⟨m, hm, rfl⟩ := List.mem_map.mp hd
    have := h m hm
    exact okD_int (by omega)
  rw [List.length_map] at this
  exact this.mono (by omega) (Nat.le_refl _)
theorem okD_lints {l : List Nat} {n : Nat} (hl : l.length ≤ n) (h : ∀ m ∈ l, m < 10 ^ 6) : OkD (22 * n + 1) 1 (.list (l.map fun m => .int ((m : Nat) : Int))) := by
  have := okD_lst (w := 21) (k := 0) (ds := l.map fun m => PyData.int ((m : Nat) : Int)) fun d hd => by
    obtain ⟨m, hm, rfl⟩ := List.mem_map.mp hd
    have := h m hm
    exact okD_int (by omega)
  rw [List.length_map] at this
  exact this.mono (by omega) (Nat.le_refl _)
theorem okD_row {r : TRow} (h0 : r.1.length ≤ 40) (h1 : ∀ m ∈ r.1, m < 32) (h2 : r.2.1 ≤ 60) (h3 : r.2.2.1 ≤ 60) (h4 : r.2.2.2 ≤ 60) : OkD 4000 2 (rowD r) := by
  refine (okD_tup (w := 881) (k := 1) (ds := [.tuple (r.1.map fun n => .int ((n : Nat) : Int)), .int (r.2.1 : Nat), .int (r.2.2.1 : Nat), .int (r.2.2.2 : Nat)]) fun d hd => ?_).mono (by show (881 + 1) * 4 + 1 ≤ 4000; decide) (by decide)
  simp only [List.mem_cons, List.not_mem_nil, or_false] at hd
  rcases hd with rfl | rfl | rfl | rfl
  · exact (okD_ints h0 fun m hm => by have := h1 m hm; omega).mono (by omega) (Nat.le_refl _)
  · exact (okD_int (by omega)).mono (by omega) (Nat.zero_le _)
  · exact (okD_int (by omega)).mono (by omega) (Nat.zero_le _)
  · exact (okD_int (by omega)).mono (by omega) (Nat.zero_le _)
theorem okD_told {T : Tr} (ok : TrOk T) : OkD 250000 3 (toldD (rowsT T)) := by
  have n60 := ok.n60
  refine (okD_tup (w := 4000) (k := 2) (ds := (rowsT T).map rowD) fun d hd => ?_).mono ?_ (by decide)
  · obtain ⟨r, hr, rfl⟩ := List.mem_map.mp hd
    obtain ⟨t, ht, rfl⟩ := List.mem_map.mp hr
    have ht := List.mem_range'_1.mp ht
    have hm : T.mks.getD t [] ∈ T.mks := by
      rw [List.getD_eq_getElem?_getD, List.getElem?_eq_getElem (by rw [ok.lm]; omega)]
      exact List.getElem_mem _
    have v := ok.vm _ hm
    have l32 := nodup_lt v.1 v.2
    refine okD_row ?_ (fun m hm => v.2 m ((srtN_perm _).mem_iff.mp hm)) (Nat.le_trans (getD_le ok.vh) n60) (Nat.le_trans (getD_le ok.vb) n60) (Nat.le_trans (getD_le ok.vf) n60)
    show (srtN _).length ≤ 40
    rw [(srtN_perm _).length_eq]
    omega
  · rw [List.length_map, rowsT, List.length_map, List.length_range']
    omega
theorem TreeAt.cong {K : PySem.W.Frag} {H H' : Hp} {x : Addr} {A : TrO} {T : Tr} (L : TreeAt K H x A T) (h : ∀ a ∈ x :: A.own, ∀ o, H a = some o → H' a = some o) : TreeAt K H' x A T where
  ins := let ⟨dx, hx⟩ := L.ins; ⟨dx, h _ List.mem_cons_self _ hx⟩
  hol := h _ (by simp [TrO.own]) _ L.hol
  bes := h _ (by simp [TrO.own]) _ L.bes
  fir := h _ (by simp [TrO.own]) _ L.fir
  num := h _ (by simp [TrO.own]) _ L.num
  mr := h _ (by simp [TrO.own]) _ L.mr
  dl := L.dl
  ds := fun i d l e1 e2 => h _ (by have := List.mem_of_getElem? e1; simp [TrO.own, this]) _ (L.ds i d l e1 e2)
  nd := L.nd
  ne := L.ne
theorem TreeAt.kp {K : PySem.W.Frag} {b : Addr} {H H' : Hp} {x : Addr} {A : TrO} {T : Tr} (L : TreeAt K H x A T) (k : Kp b H H') (n : b ∉ x :: A.own) : TreeAt K H' x A T := L.cong fun a ha o h => k.keep a o (fun e => n (by rw [← e]; exact ha)) h
theorem TreeAt.kf {K : PySem.W.Frag} {F : Addr → Prop} {H H' : Hp} {x : Addr} {A : TrO} {T : Tr} (L : TreeAt K H x A T) (k : Kf F H H') (n : ∀ a ∈ x :: A.own, ¬ F a) : TreeAt K H' x A T := L.cong fun a ha o h => k a o (n a ha) h
theorem ModAt.kp' {b : Addr} {H H' : Hp} {d : Addr} {C : Mo} {hol : List Nat} {P mks : List (List Nat)} (M : ModAt H d C hol P mks) (k : Kp b H H') (n : b ∉ d :: C.own) : ModAt H' d C hol P mks := M.cong fun a ha o h => k.keep a o (fun e => n (by rw [← e]; exact ha)) h
theorem parts_chain {T : Tr} {P : List (List Nat)} (F : Forest T P) {i : Nat} (hi : i ≤ T.n) : Chain T.bes (T.fir.getD i 0) (partsOf P i) := by
  unfold partsOf
  by_cases g : i = 0
  · rw [if_pos g, g]
    exact F.f0
  · rw [if_neg g]
    exact F.ch i (by omega) hi
theorem parts_ok {T : Tr} {P : List (List Nat)} (ok : TrOk T) (F : Forest T P) {i : Nat} (hi : i ≤ T.n) : (partsOf P i).length ≤ 61 ∧ ∀ z ∈ partsOf P i, z ≤ 60 := by
  have n60 := ok.n60
  have fm : ∀ z ∈ partsOf P i, z ≤ T.n := fun z hz => by
    unfold partsOf at hz
    by_cases g : i = 0
    · rw [if_pos g] at hz
      cases hz
    · rw [if_neg g] at hz
      exact ((F.mem i z hi).mp hz).2.1
  have fn : (partsOf P i).Nodup := by
    unfold partsOf
    by_cases g : i = 0
    · rw [if_pos g]
      exact .nil
    · rw [if_neg g]
      exact nodup_row F i
  have := nodup_lt fn (n := 61) fun z hz => by have := fm z hz; omega
  exact ⟨this, fun z hz => by have := fm z hz; omega⟩
def dueD (T : Tr) (P : List (List Nat)) (i : Nat) : PyData := .list [.int (T.hol.getD i 0 : Nat), .int (T.hol.getD i 0 : Nat), .int (T.fir.getD i 0 : Nat), .int (T.bes.getD i 0 : Nat), .int (topN T.hol T.n i : Nat), .tuple ((partsOf P i).map fun n => .int ((n : Nat) : Int))]
theorem topN_le {hol : List Nat} {n : Nat} (h : ∀ v ∈ hol, v ≤ n) : ∀ k i, i ≤ n → topN hol k i ≤ n
  | 0, i, hi => hi
  | k + 1, i, hi => by
    unfold topN
    split
    · exact hi
    · exact topN_le h k _ (getD_le h)
theorem okD_due {T : Tr} {P : List (List Nat)} (G : Good T P) {i : Nat} (hi : i ≤ T.n) : OkD 10000 2 (dueD T P i) := by
  have ok := G.ok
  have n60 := ok.n60
  have h1 := getD_le (i := i) ok.vh
  have h2 := getD_le (i := i) ok.vf
  have h3 := getD_le (i := i) ok.vb
  have h4 := topN_le ok.vh T.n i hi
  obtain ⟨h5, h6⟩ := parts_ok ok G.fo hi
  have i0 : ∀ m : Nat, m ≤ T.n → OkD 1400 1 (.int (m : Nat)) := fun m hm => (okD_int (by omega)).mono (by omega) (Nat.zero_le _)
  refine (okD_lst (w := 1400) (k := 1) fun d hd => ?_).mono (by show (1400 + 1) * 6 + 1 ≤ 10000; decide) (by decide)
  simp only [List.mem_cons, List.not_mem_nil, or_false] at hd
  rcases hd with rfl | rfl | rfl | rfl | rfl | rfl
  · exact i0 _ h1
  · exact i0 _ h1
  · exact i0 _ h2
  · exact i0 _ h3
  · exact i0 _ h4
  · exact (okD_ints h5 fun m hm => by have := h6 m hm; omega).mono (by omega) (Nat.le_refl _)
theorem dp_due {K : PySem.W.Frag} {H : Hp} {T : Tr} {P : List (List Nat)} {i : Nat} {p q : Addr} (hp : H p = some (.lst [.int (T.hol.getD i 0 : Nat), .int (T.hol.getD i 0 : Nat), .int (T.fir.getD i 0 : Nat), .int (T.bes.getD i 0 : Nat), .int (topN T.hol T.n i : Nat), .ref q])) (hq : H q = some (.tup (ni (partsOf P i)))) : Dp K H (.ref p) (dueD T P i) :=
  .lst (.inl (.inl hp)) (.cons (.int _) (.cons (.int _) (.cons (.int _) (.cons (.int _) (.cons (.int _) (.cons (.tup (.inl (.inl hq)) (dp_ni _)) .nil))))))
def spLSame (K : PySem.W.Frag) : Sp := fun vs H Q _ => ∃ (b x d : Addr) (A : TrO) (C : Mo) (T : Tr) (P : List (List Nat)), vs = [.ref b, .ref x, .ref d] ∧ Bag H b ∧ TreeAt K H x A T ∧ ModAt H d C T.hol P T.mks ∧ Good T P ∧ b ∉ x :: A.own ∧ b ∉ d :: C.own ∧ ∀ H', Kp b H H' → Q (.bl true) H'
theorem inside_hold {hol : List Nat} {n t : Nat} (n1 : 1 ≤ n) : inside hol (hol.getD t 0) n (hol.getD t 0) = !decide (hol.getD t 0 = 0) := by
  obtain ⟨m, rfl⟩ : ∃ m, n = m + 1 := ⟨n - 1, by omega⟩
  unfold inside
  by_cases h : hol.getD t 0 = 0
  · rw [if_pos h, decide_eq_true h]
    rfl
  · rw [if_neg h, if_pos rfl, decide_eq_false h]
    rfl
/-- a bad argument of a call: what is told -/
def CallBad (H : Hp) (T : Tr) (way : Int) (v w : V) (word : Str) (z : V) : Prop :=
  (0 ≤ way ∧ way < 5 ∧ word = "thing" ∧ z = v ∧ BadN H v 0 T.n) ∨
  (5 ≤ way ∧ way < 7 ∧ word = "thing" ∧ z = v ∧ BadN H v 0 T.n) ∨
  (5 ≤ way ∧ way < 7 ∧ word = "thing" ∧ z = w ∧ (∃ i : Nat, v = .int i ∧ i ≤ T.n) ∧ BadN H w 0 T.n) ∨
  (7 ≤ way ∧ way < 10 ∧ word = "thing" ∧ z = v ∧ BadN H v 0 T.n) ∨
  (7 ≤ way ∧ way < 10 ∧ word = "mark" ∧ z = w ∧ (∃ i : Nat, v = .int i ∧ i ≤ T.n) ∧ BadN H w 0 31)
theorem kb_none_int : kitB "NoneType" "int" = some false := by decide +kernel
theorem kb_str_int : kitB "str" "int" = some false := by decide +kernel
theorem kb_tuple_int : kitB "tuple" "int" = some false := by decide +kernel
theorem shw_big {K : PySem.W.Frag} {H : Hp} : Shw K H (.int (10 ^ Int.toNat 39)) (.int (10 ^ Int.toNat 39)) := ⟨.int _, by decide +kernel, rfl, by decide +kernel, by decide +kernel, by decide +kernel⟩
theorem shw_int {K : PySem.W.Frag} {H : Hp} {i : Int} (h1 : -999999999999 ≤ i) (h2 : i ≤ 999999999999) : Shw K H (.int i) (.int i) := (sm_int h1 h2).shw (.int i) (by decide) (by decide)
theorem shw_non {K : PySem.W.Frag} {H : Hp} : Shw K H .non .none := sm_non.shw .non (by decide) (by decide)
theorem shw_bl {K : PySem.W.Frag} {H : Hp} (b : Bool) : Shw K H (.bl b) (.bool b) := (sm_bl b).shw (.bl b) (by decide) (by decide)
theorem big_no {lo hi : Int} (h : hi ≤ 1000) : ¬ (lo ≤ 10 ^ Int.toNat 39 ∧ (10 : Int) ^ Int.toNat 39 ≤ hi) := fun z => by
  have e : (10 : Int) ^ Int.toNat 39 = 1000000000000000000000000000000000000000 := by decide +kernel
  rw [e] at z
  omega
def toldL (w z : Str) : PyData := .list [.str w, .str z, .bool true]
theorem toldL_shp {w z : Str} (hw : PyData.strOk w = true) (hz : PyData.strOk z = true) : SeqAt.shaped (toldL w z) = true := by
  simp [SeqAt.shaped, toldL, PyData.canLay0, PyData.canLayAll0, PyData.depth, PyData.depthAll, hw, hz]
theorem toldL_eqv {w z : Str} : PyData.eqv (toldL w z) (toldL w z) = true := by
  simp [toldL, PyData.eqv, PyData.eqvAll]
theorem toldL_dp {K : PySem.W.Frag} {H : Hp} {p : Addr} {w z : Str} (h : H p = some (.lst [.str w, .str z, .bl true])) : Dp K H (.ref p) (toldL w z) := .lst (.inl (.inl h)) (.cons (.str _) (.cons (.str _) (.cons (.bl _) .nil)))
theorem TreeAt.kpB {K : PySem.W.Frag} {b : Addr} {H H' : Hp} {x : Addr} {A : TrO} {T : Tr} (L : TreeAt K H x A T) (k : Kp b H H') (n : b ∉ x :: A.own) : TreeAt K H' x A T := L.kp k n
def spLCall (K : PySem.W.Frag) : Sp := fun vs H Q _ => ∃ (x : Addr) (A : TrO) (T : Tr) (P : List (List Nat)) (way : Int) (v w : V) (word : Str) (z : V) (d : PyData), vs = [.ref x, .int way, v, w] ∧ TreeAt K H x A T ∧ Good T P ∧ CallBad H T way v w word z ∧ Shw K H z d ∧
  ∀ p H', Same H H' → H p = none → H' p = some (.lst [.str word, .str d.shown, .bl true]) → Q (.ref p) H'
theorem call_ok {K : PySem.W.Frag} {H : Hp} {Q : VK} {x : Addr} {A : TrO} {T : Tr} {P : List (List Nat)} {way : Int} {v w z : V} {word : Str} {d : PyData} (L : TreeAt K H x A T) (G : Good T P) (cb : CallBad H T way v w word z) (sh : Shw K H z d) (ow : PyData.strOk word = true) (q : ∀ H', Same H H' → Q (.bl true) H') :
    spLCall K [.ref x, .int way, v, w] H (fun p H1 => ∃ x1, Dp K H1 z x1 ∧ x1.showable = true ∧ x1.hasDict = false ∧ x1.depth ≤ 50 ∧ x1.shown.length ≤ sizeLine ∧ 3 ≤ sizeLine ∧ ∀ p2, H1 p2 = none → rEqD K p (.ref p2) (upd H1 p2 (.lst [.str word, .str x1.shown, .bl true])) Q) E0 := by
  refine ⟨x, A, T, P, way, v, w, word, z, d, rfl, L, G, cb, sh, fun p H' s np hp => ?_⟩
  have S1 := sh.same s
  refine ⟨d, S1.dp, S1.sh, S1.nd, S1.dep, S1.len, by decide, fun p2 np2 => ?_⟩
  have s2 := same_new (o := .lst [.str word, .str d.shown, .bl true]) np2
  have os : PyData.strOk d.shown = true := S1.ok
  refine ⟨_, _, toldL_dp (s2 _ _ hp), toldL_dp upd_same, toldL_shp ow os, toldL_shp ow os, ?_⟩
  rw [toldL_eqv]
  exact q _ (s.trans s2)
def spLOdd (K : PySem.W.Frag) : Sp := fun vs H Q _ => ∃ (b : Addr) (n : Nat), vs = [.ref b, .int (n : Nat)] ∧ Bag H b ∧ n ≤ 60 ∧ ∀ v d H', Kp b H H' → BadN H' v 0 n → Shw K H' v d → Q v H'
def spLRef (K : PySem.W.Frag) : Sp := fun vs H Q _ => ∃ (b x : Addr) (A : TrO) (T : Tr) (P : List (List Nat)), vs = [.ref b, .ref x, .int (T.n : Nat)] ∧ Bag H b ∧ TreeAt K H x A T ∧ Good T P ∧ b ∉ x :: A.own ∧ ∀ H', Kp b H H' → Q (.bl true) H'
theorem bagC_kf {F : Addr → Prop} {H H' : Hp} {b c : Addr} (B : BagC H b c) (k : Kf F H H') (hb : ¬ F b) (hc : ¬ F c) : BagC H' b c := by
  obtain ⟨ns, a, r, m, n, h1, h2, h3⟩ := B
  exact ⟨ns, a, r, m, n, k _ _ hb h1, k _ _ hc h2, h3⟩
theorem Kf.mono {F F' : Addr → Prop} {H H' : Hp} (k : Kf F H H') (h : ∀ a, F a → F' a) : Kf F' H H' := fun a o n e => k a o (fun z => n (h a z)) e
theorem kp_kf {b : Addr} {H H' : Hp} (k : Kp b H H') : Kf (fun a => a = b) H H' := fun a o n e => k.keep a o n e
theorem kf_free {F : Addr → Prop} {H H' : Hp} {a : Addr} (k : Kf F H H') (h : F a → ∃ o, H' a = some o) (n : H' a = none) : H a = none := by
  cases e : H a with
  | none => rfl
  | some o =>
    by_cases f : F a
    · obtain ⟨u, hu⟩ := h f
      rw [n] at hu
      cases hu
    · rw [k a o f e] at n
      cases n
theorem allF_ni : ∀ l : List Nat, (ni l).all isF = true
  | [] => rfl
  | _ :: l => allF_ni l
theorem ni_nil {l : List Nat} : ni l = [] ↔ l = [] := by
  cases l <;> simp [ni]
theorem fp_own {A : TrO} {a : Addr} (h : A.fp a) : a ∈ A.own := by
  simp only [TrO.own, List.mem_cons]
  rcases h with h | h | h | h
  · exact .inl h
  · exact .inr (.inr (.inl h))
  · exact .inr (.inr (.inr (.inl h)))
  · exact .inr (.inr (.inr (.inr (.inr h))))
def spLDeed (K : PySem.W.Frag) : Sp := fun vs H Q _ => ∃ (b c x d : Addr) (A : TrO) (C : Mo) (T : Tr) (P : List (List Nat)), vs = [.ref b, .ref x, .ref d] ∧ BagC H b c ∧ TreeAt K H x A T ∧ ModAt H d C T.hol P T.mks ∧ Good T P ∧ Dis [b, c] (x :: A.own) ∧ Dis [b, c] (d :: C.own) ∧ Dis (x :: A.own) (d :: C.own) ∧
  ∀ T' P' C' H', Kf (fun a => a = b ∨ a ∈ A.own ∨ a ∈ C.own) H H' → BagC H' b c → TreeAt K H' x A T' → ModAt H' d C' T'.hol P' T'.mks → Good T' P' → T'.n = T.n → (∀ a ∈ C'.own, a ∈ C.own ∨ H a = none) → Q (.bl true) H'
def spX : Sp := fun _ _ _ _ => False
def spLaw (K : PySem.W.Frag) : Sp := fun vs H Q _ => ∃ (a : Addr) (ns : List Int), vs = [.ref a] ∧ SqL K H a (ns.map V.int) ∧ ns.length ≤ 1000 ∧ ∀ H', Q (.bl true) H'
theorem PairAt.same {H H' : Hp} {a : Addr} {r : Nat × List Nat} (h : PairAt H a r) (s : Same H H') : PairAt H' a r := let ⟨m, h1, h2⟩ := h; ⟨m, s _ _ h1, s _ _ h2⟩
theorem PairsAt.same {H H' : Hp} {q : Addr} {as : List Addr} {rs : List (Nat × List Nat)} (h : PairsAt H q as rs) (s : Same H H') : PairsAt H' q as rs := ⟨s _ _ h.h, h.la, fun j a r e1 e2 => (h.row j a r e1 e2).same s⟩
theorem dis_of {H : Hp} {l1 l2 : List Addr} (h1 : ∀ a ∈ l1, ∃ o, H a = some o) (h2 : ∀ a ∈ l2, H a = none) : Dis l1 l2 := fun z a b => by
  obtain ⟨o, e⟩ := h1 z a
  rw [h2 z b] at e
  cases e
theorem Dis.symm {l1 l2 : List Addr} (h : Dis l1 l2) : Dis l2 l1 := fun z a b => h z b a
theorem dis4 {b c tl ml : Addr} {l : List Addr} (h1 : Dis [b, c] l) (h2 : tl ∉ l) (h3 : ml ∉ l) : Dis [b, c, tl, ml] l := fun z hz => by
  simp only [List.mem_cons, List.not_mem_nil, or_false] at hz
  rcases hz with rfl | rfl | rfl | rfl
  · exact h1 _ (by simp)
  · exact h1 _ (by simp)
  · exact h2
  · exact h3
theorem ModAt.own_some {H : Hp} {d : Addr} {C : Mo} {hol : List Nat} {P mks : List (List Nat)} (M : ModAt H d C hol P mks) : ∀ a ∈ d :: C.own, ∃ o, H a = some o := fun a ha => by
  rcases List.mem_cons.mp ha with e | ha
  · rw [e]
    exact ⟨_, M.d⟩
  · obtain ⟨xs, e⟩ := M.lst ha
    exact ⟨_, e⟩
theorem kx_same {x : Addr} {H H1 H2 : Hp} (s : Same H H1) (k : Kx x H1 H2) (n : H x = none) : Same H H2 := fun a o h => k a o (fun e => by rw [e, n] at h; cases h) (s _ _ h)
/-- both trees and both models of the law, apart from one another -/
structure Wd (K : PySem.W.Frag) (H : Hp) (b c tl ml : Addr) (n : Nat) (x : Bool → Addr) (A : Bool → TrO) (T : Bool → Tr) (P : Bool → List (List Nat)) (d : Bool → Addr) (C : Bool → Mo) : Prop where
  bag : BagC H b c
  htl : H tl = some (.lst [.ref (x false), .ref (x true)])
  hml : H ml = some (.lst [.ref (d false), .ref (d true)])
  tr : ∀ u, TreeAt K H (x u) (A u) (T u)
  mo : ∀ u, ModAt H (d u) (C u) (T u).hol (P u) (T u).mks
  gd : ∀ u, Good (T u) (P u)
  nn : ∀ u, (T u).n = n
  s0 : tl ≠ ml ∧ c ≠ tl ∧ c ≠ ml
  s1 : ∀ u, Dis [b, c, tl, ml] (x u :: (A u).own)
  s2 : ∀ u, Dis [b, c, tl, ml] (d u :: (C u).own)
  s3 : ∀ u v, Dis (x u :: (A u).own) (d v :: (C v).own)
  s4 : ∀ u, Dis (x u :: (A u).own) (x (!u) :: (A (!u)).own)
  s5 : ∀ u, Dis (d u :: (C u).own) (d (!u) :: (C (!u)).own)
section
variable {K : PySem.W.Frag} {H H' : Hp} {b c tl ml : Addr} {n : Nat} {x : Bool → Addr} {A : Bool → TrO} {T : Bool → Tr} {P : Bool → List (List Nat)} {d : Bool → Addr} {C : Bool → Mo}
theorem Wd.kf {F : Addr → Prop} (W : Wd K H b c tl ml n x A T P d C) (k : Kf F H H') (n0 : ∀ a ∈ [b, c, tl, ml], ¬ F a) (n1 : ∀ u, ∀ a ∈ x u :: (A u).own, ¬ F a) (n2 : ∀ u, ∀ a ∈ d u :: (C u).own, ¬ F a) : Wd K H' b c tl ml n x A T P d C :=
  ⟨bagC_kf W.bag k (n0 b (by simp)) (n0 c (by simp)), k _ _ (n0 tl (by simp)) W.htl, k _ _ (n0 ml (by simp)) W.hml, fun u => (W.tr u).kf k (n1 u), fun u => (W.mo u).kf k (n2 u), W.gd, W.nn, W.s0, W.s1, W.s2, W.s3, W.s4, W.s5⟩
theorem Wd.same (W : Wd K H b c tl ml n x A T P d C) (s : Same H H') : Wd K H' b c tl ml n x A T P d C := W.kf (F := fun _ => False) (Kf.of s) (fun _ _ z => z) (fun _ _ _ z => z) (fun _ _ _ z => z)
theorem Wd.kp (W : Wd K H b c tl ml n x A T P d C) (k : Kp b H H') : Wd K H' b c tl ml n x A T P d C :=
  ⟨k.cel c W.bag, k.lst ⟨c, W.bag⟩ W.htl, k.lst ⟨c, W.bag⟩ W.hml, fun u => (W.tr u).kp k (W.s1 u b (by simp)), fun u => (W.mo u).kp' k (W.s2 u b (by simp)), W.gd, W.nn, W.s0, W.s1, W.s2, W.s3, W.s4, W.s5⟩
theorem bnot_ne {u v : Bool} (h : v ≠ u) : v = !u := by cases u <;> cases v <;> simp_all
/-- a deed on tree u and its model -/
theorem Wd.deed (W : Wd K H b c tl ml n x A T P d C) (u : Bool) {T' : Tr} {P' : List (List Nat)} {C' : Mo} (kf : Kf (fun a => a = b ∨ a ∈ (A u).own ∨ a ∈ (C u).own) H H') (hB : BagC H' b c) (L : TreeAt K H' (x u) (A u) T') (M : ModAt H' (d u) C' T'.hol P' T'.mks) (G : Good T' P') (en : T'.n = (T u).n) (own : ∀ a ∈ C'.own, a ∈ (C u).own ∨ H a = none) :
    Wd K H' b c tl ml n x A (fun v => if v = u then T' else T v) (fun v => if v = u then P' else P v) d (fun v => if v = u then C' else C v) := by
  have st : ∀ a, a = tl ∨ a = ml → ¬ (a = b ∨ a ∈ (A u).own ∨ a ∈ (C u).own) := fun a ha z => by
    have hm : a ∈ [b, c, tl, ml] := by rcases ha with rfl | rfl <;> simp
    rcases z with z | z | z
    · obtain ⟨kvs, hb⟩ := Bag.some (⟨c, W.bag⟩ : Bag H b)
      rcases ha with rfl | rfl
      · have := W.htl
        rw [z, hb] at this
        cases this
      · have := W.hml
        rw [z, hb] at this
        cases this
    · exact W.s1 u a hm (List.mem_cons_of_mem _ z)
    · exact W.s2 u a hm (List.mem_cons_of_mem _ z)
  have ownd : ∀ (l : List Addr), (∀ a ∈ l, ∃ o, H a = some o) → Dis l (d u :: (C u).own) → Dis l (d u :: C'.own) := fun l hl h z hz hm => by
    rcases List.mem_cons.mp hm with e | hm
    · exact h z hz (by rw [e]; exact List.mem_cons_self)
    · rcases own z hm with g | g
      · exact h z hz (List.mem_cons_of_mem _ g)
      · obtain ⟨o, ho⟩ := hl z hz
        rw [g] at ho
        cases ho
  have some0 : ∀ a ∈ [b, c, tl, ml], ∃ o, H a = some o := fun a ha => by
    simp only [List.mem_cons, List.not_mem_nil, or_false] at ha
    obtain ⟨ns, a1, r1, m1, n1, g1, g2, g3⟩ := W.bag
    rcases ha with rfl | rfl | rfl | rfl
    · exact ⟨_, g1⟩
    · exact ⟨_, g2⟩
    · exact ⟨_, W.htl⟩
    · exact ⟨_, W.hml⟩
  have some2 : ∀ v, ∀ a ∈ d v :: (C v).own, ∃ o, H a = some o := fun v a ha => by
    rcases List.mem_cons.mp ha with e | ha
    · rw [e]
      exact ⟨_, (W.mo v).d⟩
    · obtain ⟨xs, e⟩ := (W.mo v).lst ha
      exact ⟨_, e⟩
  have tr : ∀ v, TreeAt K H' (x v) (A v) (if v = u then T' else T v) := fun v => by
    by_cases e : v = u
    · subst e
      rw [if_pos rfl]
      exact L
    · rw [if_neg e]
      refine (W.tr v).kf kf fun a ha z => ?_
      have ev := bnot_ne e
      rcases z with z | z | z
      · exact W.s1 v b (by simp) (by rw [← z]; exact ha)
      · exact W.s4 u a (List.mem_cons_of_mem _ z) (by rw [← ev]; exact ha)
      · exact W.s3 v u a ha (List.mem_cons_of_mem _ z)
  have mo : ∀ v, ModAt H' (d v) (if v = u then C' else C v) (if v = u then T' else T v).hol (if v = u then P' else P v) (if v = u then T' else T v).mks := fun v => by
    by_cases e : v = u
    · subst e
      rw [if_pos rfl, if_pos rfl, if_pos rfl]
      exact M
    · rw [if_neg e, if_neg e, if_neg e]
      refine (W.mo v).kf kf fun a ha z => ?_
      have ev := bnot_ne e
      rcases z with z | z | z
      · exact W.s2 v b (by simp) (by rw [← z]; exact ha)
      · exact W.s3 u v a (List.mem_cons_of_mem _ z) ha
      · exact W.s5 u a (List.mem_cons_of_mem _ z) (by rw [← ev]; exact ha)
  refine ⟨hB, kf _ _ (st tl (.inl rfl)) W.htl, kf _ _ (st ml (.inr rfl)) W.hml, tr, mo, fun v => ?_, fun v => ?_, W.s0, W.s1, fun v => ?_, fun v w => ?_, W.s4, fun v => ?_⟩
  · by_cases e : v = u
    · rw [if_pos e, if_pos e]
      exact G
    · rw [if_neg e, if_neg e]
      exact W.gd v
  · by_cases e : v = u
    · rw [if_pos e, en]
      exact W.nn u
    · rw [if_neg e]
      exact W.nn v
  · by_cases e : v = u
    · rw [if_pos e, e]
      exact ownd _ some0 (W.s2 u)
    · rw [if_neg e]
      exact W.s2 v
  · by_cases e : w = u
    · rw [if_pos e, e]
      exact ownd _ (fun a ha => (W.tr v).own_some ha) (W.s3 v u)
    · rw [if_neg e]
      exact W.s3 v w
  · by_cases e : v = u
    · rw [if_pos e, if_neg (by rw [e]; cases u <;> simp), e]
      intro a ha hm
      exact ownd _ (some2 (!u)) (fun z hz hm => W.s5 u z hm hz) a hm ha
    · have ev := bnot_ne e
      rw [if_neg e, if_pos (by rw [ev]; cases u <;> rfl), ev, Bool.not_not]
      refine ownd _ (some2 (!u)) (fun z hz hm => ?_)
      exact W.s5 u z hm hz
/-- tree u is copied, and so is its model; the copies take the place of the others -/
theorem Good.srt {T : Tr} {P : List (List Nat)} (G : Good T P) : Good ⟨T.hol, T.bes, T.fir, T.mks.map srtN⟩ P := by
  have ok := G.ok
  refine ⟨⟨ok.n1, ok.n60, ok.lh, ok.lb, ok.lf, by rw [List.length_map]; exact ok.lm, ok.vh, ok.vb, ok.vf, fun l hl => ?_⟩, ⟨G.fo.len, G.fo.mem, G.fo.nd, G.fo.ch, G.fo.f0, G.fo.b0, G.fo.h0, G.fo.rk⟩, ?_⟩
  · obtain ⟨l0, h0, rfl⟩ := List.mem_map.mp hl
    have := ok.vm l0 h0
    exact ⟨(srtN_perm _).nodup_iff.mpr this.1, fun m hm => this.2 m ((srtN_perm _).mem_iff.mp hm)⟩
  · have h := G.m0
    show (T.mks.map srtN).getD 0 [] = []
    have l0 : 0 < T.mks.length := by rw [ok.lm]; omega
    rw [List.getD_eq_getElem?_getD, List.getElem?_eq_getElem l0] at h
    rw [List.getD_eq_getElem?_getD, List.getElem?_map, List.getElem?_eq_getElem l0]
    have h : T.mks[0] = [] := h
    rw [h]
    simp [srtN]
theorem ModAt.srt {H : Hp} {d : Addr} {C : Mo} {hol : List Nat} {P mks : List (List Nat)} (M : ModAt H d C hol P mks) : ModAt H d C hol P (mks.map srtN) := by
  refine ⟨M.d, M.hl, M.pp, M.mm, M.lp, by rw [List.length_map]; exact M.lm, M.pa, fun i a l e1 e2 => ?_, M.nd⟩
  rw [List.getElem?_map] at e2
  cases e : mks[i]? with
  | none => rw [e] at e2; cases e2
  | some l0 =>
    rw [e] at e2
    cases e2
    have : srtN (srtN l0) = srtN l0 := srt_uniq (srtN_pw _) (srtN_pw _) (srtN_perm _)
    rw [this]
    exact M.ma i a l0 e1 e
theorem Wd.copy {H1 H3 : Hp} (W : Wd K H b c tl ml n x A T P d C) (u : Bool) {y d' : Addr} {B : TrO} {C' : Mo} (s1 : Same H H1) (fr1 : ∀ a ∈ y :: B.own, H a = none) (L : TreeAt K H1 y B ⟨(T u).hol, (T u).bes, (T u).fir, (T u).mks.map srtN⟩)
    (s3 : Same (upd H1 tl (.lst [.ref (if false = u then x false else y), .ref (if true = u then x true else y)])) H3) (fr3 : ∀ a ∈ d' :: C'.own, (upd H1 tl (.lst [.ref (if false = u then x false else y), .ref (if true = u then x true else y)])) a = none) (M : ModAt H3 d' C' (T u).hol (P u) (T u).mks) :
    Wd K (upd H3 ml (.lst [.ref (if false = u then d false else d'), .ref (if true = u then d true else d')])) b c tl ml n (fun v => if v = u then x v else y) (fun v => if v = u then A v else B) (fun v => if v = u then T v else ⟨(T u).hol, (T u).bes, (T u).fir, (T u).mks.map srtN⟩) (fun v => if v = u then P v else P u) (fun v => if v = u then d v else d') (fun v => if v = u then C v else C') := by
  obtain ⟨e1, e2, e3⟩ := W.s0
  have kf : Kf (fun a => a = tl ∨ a = ml) H (upd H3 ml (.lst [.ref (if false = u then d false else d'), .ref (if true = u then d true else d')])) := fun a o z h => by
    rw [upd_ne (fun e => z (.inr e))]
    refine s3 _ _ ?_
    rw [upd_ne (fun e => z (.inl e))]
    exact s1 _ _ h
  have some0 : ∀ a ∈ [b, c, tl, ml], ∃ o, H a = some o := fun a ha => by
    simp only [List.mem_cons, List.not_mem_nil, or_false] at ha
    obtain ⟨ns, a1, r1, m1, n1, g1, g2, g3⟩ := W.bag
    rcases ha with rfl | rfl | rfl | rfl
    · exact ⟨_, g1⟩
    · exact ⟨_, g2⟩
    · exact ⟨_, W.htl⟩
    · exact ⟨_, W.hml⟩
  have some2 : ∀ v, ∀ a ∈ d v :: (C v).own, ∃ o, H a = some o := fun v a ha => by
    rcases List.mem_cons.mp ha with e | ha
    · rw [e]
      exact ⟨_, (W.mo v).d⟩
    · obtain ⟨xs, e⟩ := (W.mo v).lst ha
      exact ⟨_, e⟩
  have btl : b ≠ tl := fun e => by
    obtain ⟨kvs, hb⟩ := Bag.some (⟨c, W.bag⟩ : Bag H b)
    have := W.htl
    rw [← e, hb] at this
    cases this
  have bml : b ≠ ml := fun e => by
    obtain ⟨kvs, hb⟩ := Bag.some (⟨c, W.bag⟩ : Bag H b)
    have := W.hml
    rw [← e, hb] at this
    cases this
  have dis1 : ∀ (l : List Addr), (∀ a ∈ l, ∃ o, H a = some o) → Dis l (y :: B.own) := fun l hl z hz hm => by
    obtain ⟨o, ho⟩ := hl z hz
    rw [fr1 z hm] at ho
    cases ho
  have fr2 : ∀ a ∈ d' :: C'.own, H1 a = none ∧ a ≠ tl := fun a ha => by
    have := fr3 a ha
    by_cases e : a = tl
    · rw [e, upd_same] at this
      cases this
    · rw [upd_ne e] at this
      exact ⟨this, e⟩
  have dis2 : ∀ (l : List Addr), (∀ a ∈ l, ∃ o, H1 a = some o) → Dis l (d' :: C'.own) := fun l hl z hz hm => by
    obtain ⟨o, ho⟩ := hl z hz
    rw [(fr2 z hm).1] at ho
    cases ho
  have up1 : ∀ {l : List Addr}, (∀ a ∈ l, ∃ o, H a = some o) → ∀ a ∈ l, ∃ o, H1 a = some o := fun h a ha => by
    obtain ⟨o, ho⟩ := h a ha
    exact ⟨o, s1 _ _ ho⟩
  have ne0 : ∀ {l : List Addr}, Dis [b, c, tl, ml] l → ∀ a ∈ l, ¬ (a = tl ∨ a = ml) := fun h a ha z => by
    rcases z with z | z
    · exact h tl (by simp) (by rw [← z]; exact ha)
    · exact h ml (by simp) (by rw [← z]; exact ha)
  have dy := dis1 _ some0
  have dd := dis2 _ (up1 some0)
  have Lz : TreeAt K (upd H3 ml (.lst [.ref (if false = u then d false else d'), .ref (if true = u then d true else d')])) y B ⟨(T u).hol, (T u).bes, (T u).fir, (T u).mks.map srtN⟩ := L.cong fun a ha o h => by
    have z := ne0 dy a ha
    rw [upd_ne (fun e => z (.inr e))]
    refine s3 _ _ ?_
    rw [upd_ne (fun e => z (.inl e))]
    exact h
  have Mz : ModAt (upd H3 ml (.lst [.ref (if false = u then d false else d'), .ref (if true = u then d true else d')])) d' C' (T u).hol (P u) (T u).mks := M.cong fun a ha o h => by
    have z := ne0 dd a ha
    rw [upd_ne (fun e => z (.inr e))]
    exact h
  refine ⟨bagC_kf W.bag kf (fun z => z.elim btl bml) (fun z => z.elim e2 e3), ?_, upd_same, fun v => ?_, fun v => ?_, fun v => ?_, fun v => ?_, W.s0, fun v => ?_, fun v => ?_, fun v w => ?_, fun v => ?_, fun v => ?_⟩
  · rw [upd_ne e1]
    exact s3 _ _ upd_same
  · by_cases e : v = u
    · simp only [if_pos e]
      exact (W.tr v).kf kf (ne0 (W.s1 v))
    · simp only [if_neg e]
      exact Lz
  · by_cases e : v = u
    · simp only [if_pos e]
      exact (W.mo v).kf kf (ne0 (W.s2 v))
    · simp only [if_neg e]
      exact Mz.srt
  · by_cases e : v = u
    · simp only [if_pos e]
      exact W.gd v
    · simp only [if_neg e]
      exact (W.gd u).srt
  · by_cases e : v = u
    · simp only [if_pos e]
      exact W.nn v
    · simp only [if_neg e]
      exact W.nn u
  · by_cases e : v = u
    · simp only [if_pos e]
      exact W.s1 v
    · simp only [if_neg e]
      exact dy
  · by_cases e : v = u
    · simp only [if_pos e]
      exact W.s2 v
    · simp only [if_neg e]
      exact dd
  · by_cases e : v = u
    · by_cases e2 : w = u
      · simp only [if_pos e, if_pos e2]
        exact W.s3 v w
      · simp only [if_pos e, if_neg e2]
        exact dis2 _ (up1 fun a ha => (W.tr v).own_some ha)
    · by_cases e2 : w = u
      · simp only [if_neg e, if_pos e2]
        exact fun z hz hm => dis1 _ (some2 w) z hm hz
      · simp only [if_neg e, if_neg e2]
        exact dis2 _ fun a ha => L.own_some ha
  · by_cases e : v = u
    · have en : ¬ (!v) = u := by rw [e]; cases u <;> simp
      simp only [if_pos e, if_neg en]
      exact dis1 _ fun a ha => (W.tr v).own_some ha
    · have en : (!v) = u := by rw [bnot_ne e]; cases u <;> rfl
      simp only [if_neg e, if_pos en]
      exact fun z hz hm => dis1 _ (fun a ha => (W.tr (!v)).own_some ha) z hm hz
  · by_cases e : v = u
    · have en : ¬ (!v) = u := by rw [e]; cases u <;> simp
      simp only [if_pos e, if_neg en]
      exact dis2 _ (up1 (some2 v))
    · have en : (!v) = u := by rw [bnot_ne e]; cases u <;> rfl
      simp only [if_neg e, if_pos en]
      exact fun z hz hm => dis2 _ (up1 (some2 (!v))) z hm hz
end
theorem some_same {H H1 : Hp} {l : List Addr} (h : ∀ a ∈ l, ∃ o, H a = some o) (s : Same H H1) : ∀ a ∈ l, ∃ o, H1 a = some o := fun a ha => by
  obtain ⟨o, e⟩ := h a ha
  exact ⟨o, s _ _ e⟩
theorem mk_wd {K : PySem.W.Frag} {H : Hp} {b c tl ml x0 x1 d0 d1 : Addr} {n : Nat} {A0 A1 : TrO} {T0 T1 : Tr} {P : List (List Nat)} {C0 C1 : Mo} (B : BagC H b c) (htl : H tl = some (.lst [.ref x0, .ref x1])) (hml : H ml = some (.lst [.ref d0, .ref d1])) (L0 : TreeAt K H x0 A0 T0) (L1 : TreeAt K H x1 A1 T1) (M0 : ModAt H d0 C0 T0.hol P T0.mks) (M1 : ModAt H d1 C1 T1.hol P T1.mks) (G0 : Good T0 P) (G1 : Good T1 P) (e0 : T0.n = n) (e1 : T1.n = n)
    (s0 : tl ≠ ml ∧ c ≠ tl ∧ c ≠ ml) (bx0 : Dis [b, c, tl, ml] (x0 :: A0.own)) (bx1 : Dis [b, c, tl, ml] (x1 :: A1.own)) (bd0 : Dis [b, c, tl, ml] (d0 :: C0.own)) (bd1 : Dis [b, c, tl, ml] (d1 :: C1.own)) (xx : Dis (x0 :: A0.own) (x1 :: A1.own)) (dd : Dis (d0 :: C0.own) (d1 :: C1.own)) (x00 : Dis (x0 :: A0.own) (d0 :: C0.own)) (x01 : Dis (x0 :: A0.own) (d1 :: C1.own)) (x10 : Dis (x1 :: A1.own) (d0 :: C0.own)) (x11 : Dis (x1 :: A1.own) (d1 :: C1.own)) :
    Wd K H b c tl ml n (fun u => cond u x1 x0) (fun u => cond u A1 A0) (fun u => cond u T1 T0) (fun _ => P) (fun u => cond u d1 d0) (fun u => cond u C1 C0) := by
  refine ⟨B, htl, hml, fun u => ?_, fun u => ?_, fun u => ?_, fun u => ?_, s0, fun u => ?_, fun u => ?_, fun u v => ?_, fun u => ?_, fun u => ?_⟩
  · cases u; exact L0; exact L1
  · cases u; exact M0; exact M1
  · cases u; exact G0; exact G1
  · cases u; exact e0; exact e1
  · cases u; exact bx0; exact bx1
  · cases u; exact bd0; exact bd1
  · cases u <;> cases v
    · exact x00
    · exact x01
    · exact x10
    · exact x11
  · cases u; exact xx; exact xx.symm
  · cases u; exact dd; exact dd.symm
local macro_rules | `(tactic| walk_at "rd") => `(tactic| try simp only [cx_K, tDIn, tDNotIn, tDPop1, tDNewK, Fx.tSMeth, Fx.rSetO, Fx.rListOL, Fx.rIterL, tCallK, iKeys, tMethK, tLstRg, tRg1, tRg2, L2.start, List.map_cons, List.map_nil, List.length_cons, List.length_nil, List.cons_append, List.nil_append, List.append_nil, Nat.reduceAdd, Nat.reduceSub, List.replicate, tSeq, tIfS, tTest, tB, tOp, tVar, tC, tAsg, gName, tRet, tRetN, tDrop, tCB, tCons, tNil, rI0, rI, tNext, tNot, tAnd, tOr, tIf, tAndV, tOrV, tNotV, tUn, rU, tDGet, sDPut, tCall, tCallS, tTup, tLst, tSl, tPart, tNoPart, rSlS, tM0, tM1, rIxLt, rIxTt, rIxSt, rLenL, rLenT, rLenS, rIntI, rOrd, rSlLt, tBM, tBM0, rAppend, rExtend, rRep, rCat, rIxQ, rLenQ, rTupQ, rTupL, rMin2, rAnd255, rNonIs, rNonNot, rNeL, rNeT, rEqT, rIns, rPopAt, rSetL, gSub, rExtQ, rSlQ, iList, iTup, iRng1, iRng2, iStr, tFld, sFld, gFld, gTup, tMethT, tMakeT, tCallE, rIntB, rOwnEq, rRepr, rIsI, rLenO, rInO, rNotInO, rBinO, rNeO, rIxO, rListO, rIterT, rSortS, Fx.rInS, rIdxT, rIdxL, rListD, tRevL, tDGet2, rLstQ, Fx.rCntS, rIterTN, iOwn, tDead, rIxF, rLenF, rInF, rIdxF, tBMF, rEqF, rTupF, tMake, tMeth, tChain, tDep, tCallO, tBinT, rSortZ, ipZ, cx_w, rLj, rJn, rIsBl, rNoBl, tRaiseFx, tMkFx, tAug, ipI, tCont, tBreak, gCons, gNil, rLstL, rLstT, rAllL, rAnyL, rMulS, Fx.rIsB, tYes, wipe, rEqL, rEq, rNe, scal, tyv_non, tyv_bl, tyv_int, tyv_str, kb_int_int, kb_int_bool, kb_bool_int, kb_bool_bool, kb_str_str, kb_int_str, kb_bool_str, kb_none_str, kb_list_str, kb_tuple_str, kb_dict_str, kb_tuple_tuple, kb_list_list, List.getElem?_cons_zero, List.getElem?_cons_succ, List.set_cons_zero, List.set_cons_succ, Option.some.injEq, V.int.injEq, V.str.injEq, V.bl.injEq, V.ref.injEq, V.ty.injEq, HO.lst.injEq, HO.tup.injEq, List.cons.injEq, reduceCtorEq, false_and, and_false, or_false, false_or, exists_false, and_true, true_and, exists_and_left, exists_eq_left, exists_eq_left', exists_eq, exists_eq', and_assoc, ite_dec, ite_ndec, upd_same, if_true, Bool.false_eq_true, if_false, Bool.not_true, Bool.not_false])
section
variable {P : Program} {w : World} {K : PySem.W.Frag} {mg : Str → Option Value} {base : Heap}
theorem ok_is_integer (S : Src K mg "is_integer" s_is_integer) (T : Tx P K mg)   : Cal P w K mg base CX0 1 "is_integer" ["thing", "low", "high"] spIsI := by
  refine S.cal sc_is_integer bn_is_integer (fun vs H Q E h => ?_) (fun f cdv A outer s H vs Q E hr h => ?_)
  · first | (obtain ⟨rfl, _⟩ := h; rfl) | (obtain ⟨_, rfl, _⟩ := h; rfl) | (obtain ⟨_, _, rfl, _⟩ := h; rfl) | (obtain ⟨_, _, _, rfl, _⟩ := h; rfl) | (obtain ⟨_, _, _, _, rfl, _⟩ := h; rfl) | (obtain ⟨_, _, _, _, _, rfl, _⟩ := h; rfl) | (obtain ⟨_, _, _, _, _, _, rfl, _⟩ := h; rfl) | (obtain ⟨_, _, _, _, _, _, _, rfl, _⟩ := h; rfl) | (obtain ⟨_, _, _, _, _, _, _, _, rfl, _⟩ := h; rfl) | (obtain ⟨_, _, _, _, _, _, _, _, _, rfl, _⟩ := h; rfl) | (obtain ⟨_, _, _, _, _, _, _, _, _, _, rfl, _⟩ := h; rfl) | (obtain ⟨_, _, _, _, _, _, _, _, _, _, _, rfl, _⟩ := h; rfl) | (obtain ⟨_, _, _, _, _, _, _, _, _, _, _, _, rfl, _⟩ := h; rfl)
  · skip
    refine ⟨_, (pss_one (ps_ret (pe_and (Fx.pe_cB Fx.is_B T.b_isinstance (by decide +kernel) (Fx.pa_c (pv 0) (Fx.pa_c (pe_bltn (v := .ty "int") (by rfl) T.b_int (by decide +kernel) rfl) pa_nil))) (pe_and (pe_not (Fx.pe_cB Fx.is_B T.b_isinstance (by decide +kernel) (Fx.pa_c (pv 0) (Fx.pa_c (pe_bltn (v := .ty "bool") (by rfl) T.b_bool (by decide +kernel) rfl) pa_nil)))) (pe_one (pe_chain op_le op_le (pv 1) (pv 0) (pv 2))))))), ?_⟩
    obtain ⟨v, lo, hi, rfl, h⟩ := h
    walk_at "rd"
    rcases h with ⟨i, rfl, h1, h2, q⟩ | ⟨h, q⟩
    · walk_at "rd"
      rw [if_pos h1, decide_eq_true h2]
      exact q
    · rcases h with (⟨b, rfl⟩ | ⟨t, h1, h2⟩) | ⟨i, rfl, h⟩
      · walk_at "rd"
        exact q
      · refine ⟨t, h1, false, h2, ?_⟩
        rw [if_neg (by decide)]
        exact q
      · walk_at "rd"
        refine ite_i (fun g => ?_) (fun g => q)
        rw [decide_eq_false (fun g2 => h ⟨g, g2⟩)]
        exact q
end
section
variable {P : Program} {w : World} {K : PySem.W.Frag} {mg : Str → Option Value} {base : Heap}
theorem ok_comes_back (S : Src K mg "comes_back" s_comes_back) (T : Tx P K mg)   : Cal P w K mg base CX0 1 "comes_back" ["holders", "thing"] spComes := by
  refine S.cal sc_comes_back bn_comes_back (fun vs H Q E h => ?_) (fun f cdv A outer s H vs Q E hr h => ?_)
  · first | (obtain ⟨rfl, _⟩ := h; rfl) | (obtain ⟨_, rfl, _⟩ := h; rfl) | (obtain ⟨_, _, rfl, _⟩ := h; rfl) | (obtain ⟨_, _, _, rfl, _⟩ := h; rfl) | (obtain ⟨_, _, _, _, rfl, _⟩ := h; rfl) | (obtain ⟨_, _, _, _, _, rfl, _⟩ := h; rfl) | (obtain ⟨_, _, _, _, _, _, rfl, _⟩ := h; rfl) | (obtain ⟨_, _, _, _, _, _, _, rfl, _⟩ := h; rfl) | (obtain ⟨_, _, _, _, _, _, _, _, rfl, _⟩ := h; rfl) | (obtain ⟨_, _, _, _, _, _, _, _, _, rfl, _⟩ := h; rfl) | (obtain ⟨_, _, _, _, _, _, _, _, _, _, rfl, _⟩ := h; rfl) | (obtain ⟨_, _, _, _, _, _, _, _, _, _, _, rfl, _⟩ := h; rfl) | (obtain ⟨_, _, _, _, _, _, _, _, _, _, _, _, rfl, _⟩ := h; rfl)
  · skip
    refine ⟨_, (pss_cons (ps_set (i := 2) sc_comes_back.nd rfl (Or.inl rfl) (pe_ix Fx.ix_L (pv 0) (pv 1) (fun _ _ => rfl)))
        (pss_cons (ps_for PassesOwn.never rfl (pi_list (pv 0)) (pg_name (i := 3) sc_comes_back.nd rfl (Or.inl rfl)) (pss_cons (ps_if (PW.pt (pw_or (pt_cmpR op_eq (pv 2) pe_int (nomark _)) (pw_or1 (pt_cmpR op_eq (pv 2) (pv 1) (nomark _))))) (pss_one ps_break) pss_nil)
        (pss_one (ps_set (i := 2) sc_comes_back.nd rfl (Or.inl rfl) (pe_ix Fx.ix_L (pv 0) (pv 2) (fun _ _ => rfl))))))
        (pss_one (ps_ret (pe_cmpR op_eq (pv 2) (pv 1) (nomark _)))))), ?_⟩
    obtain ⟨p, hol, n, i, r, rfl, hp, lh, hb, hr, i1, hi, n60, q⟩ := h
    refine seqI fun K1 k1 => ?_
    walk_at "rd"
    refine ⟨_, hp, _, ni_at (by omega), k1 _ _ ?_⟩
    clear k1
    refine seqI fun K0 k0 => ?_
    have f1 := (hr i i1 hi).1
    have fin : ∀ (at_ : Nat) (v3 : Option V), at_ ≠ i → K0 [some (.ref p), some (.int (i : Nat)), some (.int (at_ : Nat)), v3] H := fun at_ v3 ne => by
      refine k0 _ _ ?_
      walk_at "rd"
      rw [decide_eq_false (by omega)]
      exact q
    clear k0
    refine ⟨_, rfl, p, rfl, ⟨_, .inl (.inl hp)⟩, for_list (K := K) (a := p) (xs := ni hol) (fun j σ H' => ∃ (at_ : Nat) (v3 : Option V), σ = [some (.ref p), some (.int (i : Nat)), some (.int (at_ : Nat)), v3] ∧ H' = H ∧ at_ ≤ n ∧ r at_ < r i) ⟨_, none, rfl, rfl, getD_le hb, f1⟩ (fun j σ H' _ ⟨_, _, _, e, _⟩ => by rw [e]; exact .inl (.inl hp)) ?_ ?_⟩
    · rintro j y σ H' hy ⟨at_, v3, rfl, rfl, ha, hlt⟩
      have ne : at_ ≠ i := fun e => by rw [e] at hlt; omega
      refine seqI fun K1 k1 => ?_
      walk_at "rd"
      by_cases g : at_ = 0
      · rw [if_pos (by omega)]
        exact fin at_ _ ne
      · rw [if_neg (by omega), if_neg (by omega)]
        refine k1 _ _ ?_
        clear k1
        walk_at "rd"
        have := (hr at_ (by omega) ha).1
        exact ⟨_, hp, _, ni_at (by omega), _, rfl, getD_le hb, by omega⟩
    · rintro σ H' ⟨at_, v3, rfl, rfl, ha, hlt⟩
      exact fin at_ v3 fun e => by rw [e] at hlt; omega
end
section
variable {P : Program} {w : World} {K : PySem.W.Frag} {mg : Str → Option Value} {base : Heap}
theorem ok_Tree_MU_initU {f0 : Addr} {fd : FuncData} (F : FunD K "__init__" "Tree.__init__" (defArgs s_Tree_MU_initU) (defBody s_Tree_MU_initU) (defScope s_Tree_MU_initU) [] [] f0 fd) (M : Mk K (He.ga K "Tree") f0) (T : Tx P K mg) (C_is_integer : Cal P w K mg base CX0 1 "is_integer" ["thing", "low", "high"] spIsI) (C_comes_back : Cal P w K mg base CX0 1 "comes_back" ["holders", "thing"] spComes)  : CalI P w K mg base (L2.CX P w) 3 (He.ga K "Tree") ["self", "rows"] (spTree K) := by
  refine ⟨f0, fd, M, F.bindsN bn_Tree_MU_initU, okX F sc_Tree_MU_initU (fun vs H Q E h => ?_) (fun f cdv A outer s H vs Q E hr h => ?_)⟩
  · first | (obtain ⟨rfl, _⟩ := h; rfl) | (obtain ⟨_, rfl, _⟩ := h; rfl) | (obtain ⟨_, _, rfl, _⟩ := h; rfl) | (obtain ⟨_, _, _, rfl, _⟩ := h; rfl) | (obtain ⟨_, _, _, _, rfl, _⟩ := h; rfl) | (obtain ⟨_, _, _, _, _, rfl, _⟩ := h; rfl) | (obtain ⟨_, _, _, _, _, _, rfl, _⟩ := h; rfl) | (obtain ⟨_, _, _, _, _, _, _, rfl, _⟩ := h; rfl) | (obtain ⟨_, _, _, _, _, _, _, _, rfl, _⟩ := h; rfl) | (obtain ⟨_, _, _, _, _, _, _, _, _, rfl, _⟩ := h; rfl) | (obtain ⟨_, _, _, _, _, _, _, _, _, _, rfl, _⟩ := h; rfl) | (obtain ⟨_, _, _, _, _, _, _, _, _, _, _, rfl, _⟩ := h; rfl) | (obtain ⟨_, _, _, _, _, _, _, _, _, _, _, _, rfl, _⟩ := h; rfl)
  · skip
    refine ⟨_, (pss_cons (ps_set (i := 2) sc_Tree_MU_initU.nd rfl (Or.inl rfl) (Fx.pe_cB Fx.len_Q T.b_len (by decide +kernel) (Fx.pa_c (pv 1) pa_nil)))
        (pss_cons (ps_if (pt_not (pt_chain op_le op_le pe_int (pv 2) (Fx.pe_cst T.c_MOST_THINGS))) (pss_one (Fx.ps_raiseFx rfl T.x_BadTree T.g_BadTree T.b_super hr (takes_of rfl rfl rfl rfl) (Fx.pa_c pe_int pa_nil))) pss_nil)
        (pss_cons (ps_for (passes_of rfl) rfl (Fx.pi_enumQ rfl T.b_enumerate (Fx.pa_c (pv 1) pa_nil)) (pg_tup rfl (pgs_cons (pg_name (i := 3) sc_Tree_MU_initU.nd rfl (Or.inl rfl)) (pgs_cons (pg_tup rfl (pgs_cons (pg_name (i := 4) sc_Tree_MU_initU.nd rfl (Or.inl rfl)) (pgs_cons (pg_name (i := 5) sc_Tree_MU_initU.nd rfl (Or.inl rfl)) pgs_nil))) pgs_nil))) (pss_cons (ps_if (PW.pt (pw_or (pt_not (pt_val (Fx.pe_cal C_is_integer (hr.mono (by decide)) pass0 (Fx.pa_c (pv 4) (Fx.pa_c pe_int (Fx.pa_c (pv 2) pa_nil)))))) (pw_or1 (pt_not (pt_val (Fx.pe_cB Fx.is_B T.b_isinstance (by decide +kernel) (Fx.pa_c (pv 5) (Fx.pa_c (pe_bltn (v := .ty "tuple") (by rfl) T.b_tuple (by decide +kernel) rfl) pa_nil)))))))) (pss_one (Fx.ps_raiseFx rfl T.x_BadTree T.g_BadTree T.b_super hr (takes_of rfl rfl rfl rfl) (Fx.pa_c (pe_op op_add (pv 3) pe_int) pa_nil))) pss_nil)
        (pss_one (ps_if (pt_not (pt_val (Fx.pe_cB (Fx.all_L rfl) T.b_all (by decide +kernel) (Fx.pa_c (pe_lc (own := [("mark", 6)]) rfl sc_Tree_MU_initU.nd (Fx.pi_Q (pv 5)) (blkOk_by (N := N_Tree_MU_initU) (sc := defScope s_Tree_MU_initU) (by decide +kernel)) (fun _ _ _ _ _ => (pg_name (i := 6) sc_Tree_MU_initU.nd rfl (Or.inl rfl))) (fun _ _ _ _ _ => pts_nil) (fun _ _ _ _ _ => (Fx.pe_cal C_is_integer (hr.mono (by decide)) pass0 (Fx.pa_c (pv 6) (Fx.pa_c pe_int (Fx.pa_c (pe_op op_sub (Fx.pe_cst T.c_MOST_MARKS) pe_int) pa_nil)))))) pa_nil)))) (pss_one (Fx.ps_raiseFx rfl T.x_BadTree T.g_BadTree T.b_super hr (takes_of rfl rfl rfl rfl) (Fx.pa_c (pe_op op_add (pv 3) pe_int) pa_nil))) pss_nil))))
        (pss_cons (ps_fld (pv 0) (pe_op op_cat (pe_lst (Fx.pa_c pe_int pa_nil)) (pe_lc (own := [("row", 7)]) rfl sc_Tree_MU_initU.nd (Fx.pi_Q (pv 1)) (blkOk_by (N := N_Tree_MU_initU) (sc := defScope s_Tree_MU_initU) (by decide +kernel)) (fun _ _ _ _ _ => (pg_name (i := 7) sc_Tree_MU_initU.nd rfl (Or.inl rfl))) (fun _ _ _ _ _ => pts_nil) (fun _ _ _ _ _ => (pe_ix Fx.ix_T (pv 7) pe_int (fun _ _ => rfl))))) rfl)
        (pss_cons (ps_for (passes_of rfl) rfl (pi_range2 rfl T.b_range (Fx.pa_c pe_int (Fx.pa_c (pe_op op_add (pv 2) pe_int) pa_nil))) (pg_name (i := 8) sc_Tree_MU_initU.nd rfl (Or.inl rfl)) (pss_one (ps_if (pt_val (Fx.pe_cal C_comes_back (hr.mono (by decide)) pass0 (Fx.pa_c (Fx.pe_fldK (K := K) rfl (pv 0) rfl) (Fx.pa_c (pv 8) pa_nil)))) (pss_one (Fx.ps_raiseFx rfl T.x_BadTree T.g_BadTree T.b_super hr (takes_of rfl rfl rfl rfl) (Fx.pa_c (pv 8) pa_nil))) pss_nil)))
        (pss_cons (ps_fld (pv 0) (pe_lst (Fx.pa_c pe_dnewK pa_nil)) rfl)
        (pss_cons (ps_for (passes_of rfl) rfl (Fx.pi_Q (pv 1)) (pg_name (i := 7) sc_Tree_MU_initU.nd rfl (Or.inl rfl)) (pss_cons (ps_set (i := 9) sc_Tree_MU_initU.nd rfl (Or.inl rfl) pe_dnewK)
        (pss_cons (ps_for (passes_of rfl) rfl (Fx.pi_Q (pe_ix Fx.ix_T (pv 7) pe_int (fun _ _ => rfl))) (pg_name (i := 6) sc_Tree_MU_initU.nd rfl (Or.inl rfl)) (pss_one (ps_dput (hu_of hr) (pv 9) (pv 6) pe_bl rfl)))
        (pss_one (ps_expr (pe_bm PySem.F.plainAttrs_list PySem.F.slot_list_append PySem.F.type_list_append mt_append (Fx.pe_fldK (K := K) rfl (pv 0) rfl) (Fx.pa_c (pv 9) pa_nil)))))))
        (pss_cons (ps_fld (pv 0) (pe_op op_rep (pe_lst (Fx.pa_c pe_int pa_nil)) (pe_op op_add (pv 2) pe_int)) rfl)
        (pss_cons (ps_fld (pv 0) (pe_op op_rep (pe_lst (Fx.pa_c pe_int pa_nil)) (pe_op op_add (pv 2) pe_int)) rfl)
        (pss_cons (ps_fld (pv 0) (pe_listRg rfl rfl T.b_list (prg_2 rfl T.b_range pe_int (pe_op op_add (pv 2) pe_int))) rfl)
        (pss_one (ps_for (passes_of rfl) rfl (pi_range3 rfl T.b_range (Fx.pa_c (pv 2) (Fx.pa_c pe_int (Fx.pa_c (pe_un un_neg pe_int) pa_nil)))) (pg_name (i := 8) sc_Tree_MU_initU.nd rfl (Or.inl rfl)) (pss_cons (ps_set (i := 4) sc_Tree_MU_initU.nd rfl (Or.inl rfl) (pe_ix Fx.ix_L (Fx.pe_fldK (K := K) rfl (pv 0) rfl) (pv 8) (fun _ _ => rfl)))
        (pss_one (ps_if (pt_cmpR op_ne (pv 4) pe_int (nomark _)) (pss_cons (ps_asg (pe_ix Fx.ix_L (Fx.pe_fldK (K := K) rfl (pv 0) rfl) (pv 4) (fun _ _ => rfl)) (pg_sub (Fx.pe_fldK (K := K) rfl (pv 0) rfl) (pv 8) set_list))
        (pss_one (ps_asg (pv 8) (pg_sub (Fx.pe_fldK (K := K) rfl (pv 0) rfl) (pv 4) set_list)))) pss_nil))))))))))))))), ?_⟩
    obtain ⟨x, p, dx, as, rs, n, rfl, hx, hp, la, hr, R, q⟩ := h
    have eL : ((as.map V.ref).length : Int) = (n : Nat) := by rw [List.length_map, la, R.len]
    have Sqs : ∀ {H1 H2 : Hp}, Sq H1 p (as.map V.ref) → Same H1 H2 → Sq H2 p (as.map V.ref) := fun h s => h.elim (fun h => .inl (s _ _ h)) fun h => .inr (s _ _ h)
    have rowA : ∀ {j : Nat} {y : V}, (as.map V.ref)[j]? = some y → ∃ a r, y = .ref a ∧ as[j]? = some a ∧ rs[j]? = some r ∧ r ∈ rs ∧ PairAt H a r ∧ j < n := fun {j y} hy => by
      have hj := (List.getElem?_eq_some_iff.mp hy).1
      rw [List.length_map] at hj
      rw [List.getElem?_map, List.getElem?_eq_getElem hj] at hy
      cases hy
      have hj2 : j < rs.length := by omega
      exact ⟨as[j], rs[j], rfl, List.getElem?_eq_getElem hj, List.getElem?_eq_getElem hj2, List.getElem_mem hj2, hr j _ _ (List.getElem?_eq_getElem hj) (List.getElem?_eq_getElem hj2), by rw [← R.len]; exact hj2⟩
    have n60 := R.n60
    have n1 := R.n1
    refine seqI fun K1 k1 => ?_
    walk_at "rd"
    refine ⟨_, hp, k1 _ _ ?_⟩
    clear k1
    rw [eL]
    refine seqI fun K1 k1 => ?_
    walk_at "rd"
    rw [if_pos (by omega), if_pos (by omega)]
    refine k1 _ _ ?_
    clear k1
    refine seqI fun K0 k0 => ?_
    refine for_enumQ (K := K) (a := p) (xs := as.map V.ref) (fun Q h => ⟨_, rfl, h⟩) hp (fun i σ H' => ∃ v3 v4 v5 : Option V, σ = [some (.ref x), some (.ref p), some (.int (n : Nat)), v3, v4, v5, none, none, none, none] ∧ Same H H') ⟨none, none, none, rfl, Same.refl H⟩ ?_ ?_ ?_
    · rintro i σ H' ⟨_, _, _, _, s⟩ o e
      exact s _ _ e
    · rintro i y T' σ H' hy ⟨v3, v4, v5, rfl, s1⟩ nT
      obtain ⟨a, r, rfl, ha, hr2, hm, hra, hin⟩ := rowA hy
      have sT := same_new (o := .tup [.int (i : Nat), .ref a]) nT
      have s2 := s1.trans sT
      obtain ⟨mm, h1, h2⟩ := id hra
      refine ⟨T', _, rfl, .inl (.inl upd_same), rfl, _, _, rfl, _, _, rfl, a, _, rfl, .inl (.inl (s2 _ _ h1)), rfl, _, _, rfl, _, _, rfl, rfl, rfl, ?_⟩
      have g := R.row r hm
      have h2' := s2 _ _ h2
      refine seqI fun K1 k1 => ?_
      walk_at "rd"
      refine ⟨_, _, _, rfl, .inl ⟨_, rfl, by omega, by omega, _, rfl, ?_⟩⟩
      rw [if_neg (by decide)]
      refine ⟨"tuple", tyv_tp h2', true, rfl, ?_⟩
      rw [if_neg (by decide)]
      refine k1 _ _ ?_
      clear k1
      walk_at "rd"
      refine lcQ (K := K) (a := mm) (xs := ni r.2) (fun _ => [V.bl true]) rfl (.inr h2') ?_ ?_
      · intro D nD j y H3 hy h3
        have hj := (List.getElem?_eq_some_iff.mp hy).1
        rw [ni_len] at hj
        rw [ni_get hj] at hy
        cases hy
        have hm32 : r.2.getD j 0 < 32 := g.2.2 _ (by rw [List.getD_eq_getElem?_getD, List.getElem?_eq_getElem hj]; exact List.getElem_mem hj)
        refine ⟨rfl, ?_⟩
        walk_at "rd"
        refine ⟨_, _, _, rfl, .inl ⟨_, rfl, by omega, by omega, ?_⟩⟩
        exact h3.put nD (fun _ => Nat.le_refl _) (by have := g.2.1; omega) (Same.refl _) rfl
      intro D H3 nD s3 hD
      rw [flat_one] at hD
      refine ⟨D, rfl, List.replicate (ni r.2).length true, by rw [hD, List.map_replicate, List.map_const', List.length_range], ?_⟩
      rw [if_neg (by simp)]
      exact s2.trans s3
    rintro σ H1 ⟨v3, v4, v5, rfl, s1⟩
    refine k0 _ _ ?_
    clear k0
    have zz : 1 + n ≤ sizeLine := Nat.le_trans (by omega : _ ≤ 100) (by decide)
    refine seqI fun K1 k1 => ?_
    walk_at "rd"
    refine ⟨by decide, fun q0 n0 => ?_⟩
    have sA := same_new (o := .lst [.int 0]) n0
    have hq0 : (upd H1 q0 (.lst [.int 0])) q0 = some (.lst [.int 0]) := upd_same
    generalize upd H1 q0 (.lst [.int 0]) = H2 at sA hq0
    have s2 := s1.trans sA
    refine lcQ (K := K) (a := p) (xs := as.map V.ref) (fun i => [V.int ((rs.map fun r => r.1).getD i 0 : Nat)]) rfl (Sqs hp s2) ?_ ?_
    · intro D nD i y H3 hy h3
      obtain ⟨a, r, rfl, ha, hr2, hm, hra, hin⟩ := rowA hy
      obtain ⟨mm, h4, _⟩ := hra
      have h4 := (s2.trans h3.1) _ _ h4
      have e : (rs.map fun r => r.1).getD i 0 = r.1 := by rw [List.getD_eq_getElem?_getD, List.getElem?_map, hr2]; rfl
      refine ⟨rfl, ?_⟩
      walk_at "rd"
      refine ⟨_, h4, _, rfl, ?_⟩
      exact h3.put nD (fun _ => Nat.le_refl _) (by omega) (Same.refl _) (by rw [e])
    intro D H3 nD s3 hD
    rw [flat_one, show (as.map V.ref).length = n by rw [List.length_map, la, R.len], range_getD (by rw [List.length_map, R.len])] at hD
    refine ⟨D, rfl, _, s3 _ _ hq0, _, hD, by rw [ni_len, List.length_map, R.len]; exact zz, fun qh nh => ?_⟩
    obtain ⟨hol, eh⟩ : ∃ hol, hol = 0 :: rs.map fun r => r.1 := ⟨_, rfl⟩
    have e2 : [V.int 0] ++ ni (rs.map fun r => r.1) = ni hol := by rw [eh]; rfl
    rw [e2]
    have s4 := (s2.trans s3).trans (same_new (o := .lst (ni hol)) nh)
    have hh : (upd H3 qh (.lst (ni hol))) qh = some (.lst (ni hol)) := upd_same
    have nh0 : H qh = none := (s2.trans s3).free nh
    generalize upd H3 qh (.lst (ni hol)) = H4 at s4 hh
    clear hD s3 nD hq0 sA s2 n0 nh s1
    refine ⟨_, _, _, s4 _ _ hx, T.cl_Tree, T.n_Tree_holders, by decide, k1 _ _ ?_⟩
    clear k1
    have k5 : Kx x H (upd H4 x (.ins (He.ga K "Tree") dx [("holders", .ref qh)])) := fun a o ne h => by
      rw [upd_ne ne]
      exact s4 _ _ h
    have hx5 : (upd H4 x (.ins (He.ga K "Tree") dx [("holders", .ref qh)])) x = some (.ins (He.ga K "Tree") dx [("holders", .ref qh)]) := upd_same
    have hh5 : (upd H4 x (.ins (He.ga K "Tree") dx [("holders", .ref qh)])) qh = some (.lst (ni hol)) := by
      rw [upd_ne (fun e => by rw [e, hx] at nh0; cases nh0)]
      exact hh
    show tSeq _ _ _ _ (upd H4 x (.ins (He.ga K "Tree") dx [("holders", .ref qh)]))
    generalize upd H4 x (.ins (He.ga K "Tree") dx [("holders", .ref qh)]) = H5 at k5 hx5 hh5
    clear hh s4
    have lh : hol.length = n + 1 := by rw [eh, List.length_cons, List.length_map, R.len]
    have vh : ∀ v ∈ hol, v ≤ n := fun v hv => by
      rw [eh] at hv
      rcases List.mem_cons.mp hv with rfl | hv
      · exact Nat.zero_le _
      · obtain ⟨r, hr, rfl⟩ := List.mem_map.mp hv
        exact (R.row r hr).1
    obtain ⟨rk, hrk⟩ := R.rk
    rw [← eh] at hrk
    refine seqI fun K0 k0 => ?_
    refine ⟨_, rfl, (n : Int), 1, rfl, rfl, 1, (n : Int) + 1, rfl, ⟨by decide, by decide, by omega, by omega⟩, ?_⟩
    rw [show ((n : Int) + 1 - 1).toNat = n by omega]
    refine for_range (lo := 1) (n := n) (fun i σ H' => ∃ v8 : Option V, σ = [some (.ref x), some (.ref p), some (.int (n : Nat)), v3, v4, v5, none, none, v8, none] ∧ Same H5 H') ⟨none, rfl, Same.refl _⟩ ?_ ?_
    · rintro i σ H' hi ⟨v8, rfl, s1⟩
      walk_at "rd"
      refine ⟨_, _, _, s1 _ _ hx5, T.cl_Tree, T.n_Tree_holders, _, rfl, qh, hol, n, i + 1, rk, by rw [show (1 : Int) + (i : Nat) = ((i + 1 : Nat) : Int) by omega], s1 _ _ hh5, lh, vh, hrk, by omega, by omega, n60, _, rfl, ?_⟩
      rw [if_neg (by decide)]
      exact s1
    rintro σ H6 ⟨v8, rfl, s6⟩
    refine k0 _ _ ?_
    clear k0
    have k6 : Kx x H H6 := fun a o ne h => s6 _ _ (k5 a o ne h)
    have hx6 := s6 _ _ hx5
    have hh6 := s6 _ _ hh5
    clear k5 hx5 hh5 s6
    refine seqI fun K1 k1 => ?_
    walk_at "rd"
    intro d0 nd0
    have sd := same_new (o := .dK []) nd0
    have hd0 : (upd H6 d0 (.dK [])) d0 = some (.dK []) := upd_same
    have nd00 := k6.free hx6 nd0
    generalize upd H6 d0 (.dK []) = H7 at sd hd0
    refine ⟨by decide, fun mr nmr => ?_⟩
    have sm := same_new (o := .lst [.ref d0]) nmr
    have hmr : (upd H7 mr (.lst [.ref d0])) mr = some (.lst [.ref d0]) := upd_same
    have nmr6 := sd.free nmr
    have nmr0 := k6.free hx6 nmr6
    have hd0 := sm _ _ hd0
    have s67 := sd.trans sm
    generalize upd H7 mr (.lst [.ref d0]) = H8 at s67 hmr hd0
    clear nmr sd sm
    refine ⟨_, _, _, s67 _ _ hx6, T.cl_Tree, T.n_Tree_mark_rows, (by show 1 < 1000; decide), k1 _ _ ?_⟩
    clear k1
    have hx8 := s67 _ _ hx6
    have hh8 := s67 _ _ hh6
    have k8 : Kx x H H8 := fun a o ne h => s67 _ _ (k6 a o ne h)
    have k9 : Kx x H (upd H8 x (.ins (He.ga K "Tree") dx [("holders", .ref qh), ("mark_rows", .ref mr)])) := fun a o ne h => by
      rw [upd_ne ne]
      exact k8 a o ne h
    have hx9 : (upd H8 x (.ins (He.ga K "Tree") dx [("holders", .ref qh), ("mark_rows", .ref mr)])) x = some (.ins (He.ga K "Tree") dx [("holders", .ref qh), ("mark_rows", .ref mr)]) := upd_same
    have hh9 : (upd H8 x (.ins (He.ga K "Tree") dx [("holders", .ref qh), ("mark_rows", .ref mr)])) qh = some (.lst (ni hol)) := by
      rw [upd_ne (ne_of hh8 hx8 (by intro z; cases z))]
      exact hh8
    have hm9 : (upd H8 x (.ins (He.ga K "Tree") dx [("holders", .ref qh), ("mark_rows", .ref mr)])) mr = some (.lst [.ref d0]) := by
      rw [upd_ne (ne_of hmr hx8 (by intro z; cases z))]
      exact hmr
    have hd9 : (upd H8 x (.ins (He.ga K "Tree") dx [("holders", .ref qh), ("mark_rows", .ref mr)])) d0 = some (.dK []) := by
      rw [upd_ne (ne_of hd0 hx8 (by intro z; cases z))]
      exact hd0
    show tSeq _ _ _ _ (upd H8 x (.ins (He.ga K "Tree") dx [("holders", .ref qh), ("mark_rows", .ref mr)]))
    generalize upd H8 x (.ins (He.ga K "Tree") dx [("holders", .ref qh), ("mark_rows", .ref mr)]) = H9 at k9 hx9 hh9 hm9 hd9
    have qm : qh ≠ mr := fun e => by rw [e, nmr6] at hh6; cases hh6
    clear k8 hx8 hh8 hmr hd0 s67 nd0 k6 hx6 hh6 nmr6
    refine seqI fun K0 k0 => ?_
    refine forA (K := K) (x := x) (Hb := H) (a := p) (xs := as.map V.ref) hx rfl (hp.elim (fun h => .inl (.inl (.inl h))) fun h => .inr (.inl (.inl h))) (fun i σ H' => ∃ (v6 v7 v9 : Option V) (ds : List Addr), σ = [some (.ref x), some (.ref p), some (.int (n : Nat)), v3, v4, v5, v6, v7, v8, v9] ∧ ds.length = i + 1 ∧ H' mr = some (.lst (ds.map V.ref)) ∧ (∀ (j : Nat) (d : Addr) (l : List Nat), ds[j]? = some d → (mks0 rs)[j]? = some l → H' d = some (.dK (mkv l))) ∧ ds.Nodup ∧ (∀ d ∈ ds, H d = none) ∧ Kx x H H' ∧ H' x = some (.ins (He.ga K "Tree") dx [("holders", .ref qh), ("mark_rows", .ref mr)]) ∧ H' qh = some (.lst (ni hol))) ?_ (fun i σ H' ⟨_, _, _, _, _, _, _, _, _, _, k, _⟩ => k) ?_ ?_
    · refine ⟨none, none, none, [d0], rfl, rfl, hm9, fun j d l e1 e2 => ?_, by simp, fun d hd => by rw [List.mem_singleton.mp hd]; exact nd00, k9, hx9, hh9⟩
      cases j with
      | zero =>
        cases e1
        cases e2
        exact hd9
      | succ j => cases e1
    · rintro i y σ H' hy ⟨v6, v7, v9, ds, rfl, ld, hm, hds, nds, fds, kx, hx', hh'⟩
      obtain ⟨a, r, rfl, ha, hr2, hmem, ⟨m, h1, h2⟩, hin⟩ := rowA hy
      have h1 := kx _ _ (ne_of h1 hx (by intro z; cases z)) h1
      have h2 := kx _ _ (ne_of h2 hx (by intro z; cases z)) h2
      refine seqI fun K1 k1 => ?_
      walk_at "rd"
      intro d nd
      refine k1 _ _ ?_
      clear k1
      have sd := same_new (o := .dK []) nd
      have nd0 := kx.free hx' nd
      refine seqI fun K1 k1 => ?_
      have dne : ∀ {a : Addr} {o : HO}, H' a = some o → a ≠ d := fun h e => by rw [e, nd] at h; cases h
      refine .inr ⟨_, rfl, a, 1, _, rfl, rfl, sd _ _ h1, _, rfl, m, rfl, ⟨_, .inl (.inl (sd _ _ h2))⟩, for_tup (K := K) (a := m) (xs := ni r.2) (fun j σ H2 => ∃ v6 : Option V, σ = [some (.ref x), some (.ref p), some (.int (n : Nat)), v3, v4, v5, v6, some (.ref a), v8, some (.ref d)] ∧ H2 = upd H' d (.dK (mkv (onceL (r.2.take j))))) ⟨v6, rfl, rfl⟩ (fun j σ H2 _ ⟨_, _, e⟩ => by rw [e]; exact .inl (.inl (same_new nd _ _ h2))) ?_ ?_⟩
      · rintro j y σ H2 hy ⟨v6, rfl, rfl⟩
        have hj := (List.getElem?_eq_some_iff.mp hy).1
        rw [ni_len] at hj
        rw [ni_get hj] at hy
        cases hy
        have hj2 : r.2[j]? = some (r.2.getD j 0) := by rw [List.getD_eq_getElem?_getD, List.getElem?_eq_getElem hj]; rfl
        walk_at "rd"
        refine ⟨_, DPut.k (k := .inl ((r.2.getD j 0 : Nat) : Int)) upd_same (by
          rw [mkv, List.length_map]
          have h40 := (R.row r hmem).2.1
          have := nodup_lt (once_ok (r.2.take j)).1 (n := 32) fun z hz => (R.row r hmem).2.2 z (List.mem_of_mem_take (((once_ok (r.2.take j)).2 z).mp hz))
          exact Nat.lt_of_lt_of_le (by omega : _ < 100) (by decide)), ?_⟩
        rw [upd_upd, putK_mkv, once_take hj2]
        split <;> rfl
      · rintro σ H2 ⟨v6, rfl, rfl⟩
        rw [ni_len, List.take_length]
        refine k1 _ _ ?_
        clear k1
        have s2 := same_new (o := .dK (mkv (onceL r.2))) nd
        have hd2 : (upd H' d (.dK (mkv (onceL r.2)))) d = some (.dK (mkv (onceL r.2))) := upd_same
        generalize upd H' d (.dK (mkv (onceL r.2))) = H2 at s2 hd2
        have hm2 := s2 _ _ hm
        walk_at "rd"
        refine ⟨_, _, _, s2 _ _ hx', T.cl_Tree, T.n_Tree_mark_rows, _, rfl, tyL hm2, _, rfl, _, hm2, ?_, ?_⟩
        · rw [List.length_map, ld]
          exact Nat.lt_of_lt_of_le (by omega : _ < 100) (by decide)
        have keep : ∀ {a : Addr} {o : HO}, H2 a = some o → (∀ xs, o ≠ .lst xs) → (upd H2 mr (.lst (ds.map V.ref ++ [.ref d]))) a = some o := fun h no => by
          rw [upd_ne (ne_of h hm2 (fun e => no _ e))]
          exact h
        refine ⟨ds ++ [d], by rw [List.length_append, ld]; rfl, by rw [upd_same, List.map_append]; rfl, fun j d' l e1 e2 => ?_, ?_, fun d' hd' => ?_, fun c o ne h => ?_, keep (s2 _ _ hx') (by intro xs e; cases e), ?_⟩
        · refine keep ?_ (by intro xs e; cases e)
          by_cases hj : j < ds.length
          · rw [List.getElem?_append_left hj] at e1
            exact s2 _ _ (hds j d' l e1 e2)
          · have hj2 := (List.getElem?_eq_some_iff.mp e1).1
            rw [List.length_append, List.length_singleton] at hj2
            have ej : j = ds.length := by omega
            rw [ej, List.getElem?_append_right (Nat.le_refl _), Nat.sub_self] at e1
            cases e1
            rw [ej, ld, mks0, List.getElem?_cons_succ, List.getElem?_map, hr2] at e2
            cases e2
            exact hd2
        · refine List.nodup_append.mpr ⟨nds, by simp, fun a ha b hb e => ?_⟩
          rw [List.mem_singleton.mp hb] at e
          obtain ⟨j, hj⟩ := List.getElem?_of_mem ha
          have hl : j < (mks0 rs).length := by
            have := (List.getElem?_eq_some_iff.mp hj).1
            rw [mks0, List.length_cons, List.length_map, R.len]
            omega
          exact dne (hds j a _ hj (List.getElem?_eq_getElem hl)) e
        · rcases List.mem_append.mp hd' with h | h
          · exact fds d' h
          · rw [List.mem_singleton.mp h]
            exact nd0
        · have hc := s2 _ _ (kx c o ne h)
          rw [upd_ne (fun e => by rw [e, nmr0] at h; cases h)]
          exact hc
        · rw [upd_ne qm]
          exact s2 _ _ hh'
    rintro σ H10 ⟨v6, v7, v9, ds, rfl, ld, hm, hds, nds, fds, k10, hx10, hh10⟩
    refine k0 _ _ ?_
    clear k0
    rw [List.length_map, la, R.len] at ld
    have z60 : ((n : Nat) : Int) + 1 < 2 ^ 63 := by omega
    have eN : ((n : Nat) : Int) + 1 = ((n + 1 : Nat) : Int) := by omega
    have eR := rep_flat n
    have sz1 : 1 * ((n : Int) + 1).toNat ≤ sizeLine := Nat.le_trans (by omega : _ ≤ 100) (by decide)
    refine seqI fun K1 k1 => ?_
    walk_at "rd"
    refine ⟨by decide, fun l0 nl0 => ⟨by omega, z60, sz1, fun qb nqb => ?_⟩⟩
    rw [eR]
    have s1 := same_new (o := .lst [.int 0]) nl0
    have s2 := s1.trans (same_new (o := .lst (ni (List.replicate (n + 1) 0))) nqb)
    have hb2 : (upd (upd H10 l0 (.lst [.int 0])) qb (.lst (ni (List.replicate (n + 1) 0)))) qb = some (.lst (ni (List.replicate (n + 1) 0))) := upd_same
    have nqb10 := s1.free nqb
    generalize upd (upd H10 l0 (.lst [.int 0])) qb (.lst (ni (List.replicate (n + 1) 0))) = H11 at s2 hb2
    refine ⟨_, _, _, s2 _ _ hx10, T.cl_Tree, T.n_Tree_besides, (by show 2 < 1000; decide), k1 _ _ ?_⟩
    clear k1 nqb s1
    have k12 : Kx x H (upd H11 x (.ins (He.ga K "Tree") dx [("holders", .ref qh), ("mark_rows", .ref mr), ("besides", .ref qb)])) := fun a o ne h => by
      rw [upd_ne ne]
      exact s2 _ _ (k10 a o ne h)
    have g12 : ∀ {a : Addr} {o : HO}, H10 a = some o → (∀ C dx fs, o ≠ .ins C dx fs) → (upd H11 x (.ins (He.ga K "Tree") dx [("holders", .ref qh), ("mark_rows", .ref mr), ("besides", .ref qb)])) a = some o := fun h no => by
      rw [upd_ne (ne_of h hx10 (fun e => no _ _ _ e))]
      exact s2 _ _ h
    have hb12 : (upd H11 x (.ins (He.ga K "Tree") dx [("holders", .ref qh), ("mark_rows", .ref mr), ("besides", .ref qb)])) qb = some (.lst (ni (List.replicate (n + 1) 0))) := by
      rw [upd_ne (ne_of hb2 (s2 _ _ hx10) (by intro z; cases z))]
      exact hb2
    have hx12 : (upd H11 x (.ins (He.ga K "Tree") dx [("holders", .ref qh), ("mark_rows", .ref mr), ("besides", .ref qb)])) x = some (.ins (He.ga K "Tree") dx [("holders", .ref qh), ("mark_rows", .ref mr), ("besides", .ref qb)]) := upd_same
    have hh12 := g12 hh10 (by intro _ _ _ e; cases e)
    have hm12 := g12 hm (by intro _ _ _ e; cases e)
    have hds12 : ∀ (j : Nat) (d : Addr) (l : List Nat), ds[j]? = some d → (mks0 rs)[j]? = some l → _ := fun j d l e1 e2 => g12 (hds j d l e1 e2) (by intro _ _ _ e; cases e)
    have nqb0 := k10.free hx10 nqb10
    have ebh : qh ≠ qb := fun e => by rw [e, nqb10] at hh10; cases hh10
    have ebm : mr ≠ qb := fun e => by rw [e, nqb10] at hm; cases hm
    show tSeq _ _ _ _ (upd H11 x (.ins (He.ga K "Tree") dx [("holders", .ref qh), ("mark_rows", .ref mr), ("besides", .ref qb)]))
    generalize upd H11 x (.ins (He.ga K "Tree") dx [("holders", .ref qh), ("mark_rows", .ref mr), ("besides", .ref qb)]) = H12 at k12 hb12 hx12 hh12 hm12 hds12
    clear g12 hb2 s2 hx10 hh10 hm hds k10 nqb10 hx9 hh9 hm9 hd9 k9
    refine seqI fun K1 k1 => ?_
    walk_at "rd"
    refine ⟨by decide, fun l1 nl1 => ⟨by omega, z60, sz1, fun qf nqf => ?_⟩⟩
    rw [eR]
    have s1 := same_new (o := .lst [.int 0]) nl1
    have s2 := s1.trans (same_new (o := .lst (ni (List.replicate (n + 1) 0))) nqf)
    have hf2 : (upd (upd H12 l1 (.lst [.int 0])) qf (.lst (ni (List.replicate (n + 1) 0)))) qf = some (.lst (ni (List.replicate (n + 1) 0))) := upd_same
    have nqf12 := s1.free nqf
    generalize upd (upd H12 l1 (.lst [.int 0])) qf (.lst (ni (List.replicate (n + 1) 0))) = H13 at s2 hf2
    refine ⟨_, _, _, s2 _ _ hx12, T.cl_Tree, T.n_Tree_firsts, (by show 3 < 1000; decide), k1 _ _ ?_⟩
    clear k1 nqf s1
    have k14 : Kx x H (upd H13 x (.ins (He.ga K "Tree") dx [("holders", .ref qh), ("mark_rows", .ref mr), ("besides", .ref qb), ("firsts", .ref qf)])) := fun a o ne h => by
      rw [upd_ne ne]
      exact s2 _ _ (k12 a o ne h)
    have g14 : ∀ {a : Addr} {o : HO}, H12 a = some o → (∀ C dx fs, o ≠ .ins C dx fs) → (upd H13 x (.ins (He.ga K "Tree") dx [("holders", .ref qh), ("mark_rows", .ref mr), ("besides", .ref qb), ("firsts", .ref qf)])) a = some o := fun h no => by
      rw [upd_ne (ne_of h hx12 (fun e => no _ _ _ e))]
      exact s2 _ _ h
    have hf14 : (upd H13 x (.ins (He.ga K "Tree") dx [("holders", .ref qh), ("mark_rows", .ref mr), ("besides", .ref qb), ("firsts", .ref qf)])) qf = some (.lst (ni (List.replicate (n + 1) 0))) := by
      rw [upd_ne (ne_of hf2 (s2 _ _ hx12) (by intro z; cases z))]
      exact hf2
    have hx14 : (upd H13 x (.ins (He.ga K "Tree") dx [("holders", .ref qh), ("mark_rows", .ref mr), ("besides", .ref qb), ("firsts", .ref qf)])) x = some (.ins (He.ga K "Tree") dx [("holders", .ref qh), ("mark_rows", .ref mr), ("besides", .ref qb), ("firsts", .ref qf)]) := upd_same
    have hh14 := g14 hh12 (by intro _ _ _ e; cases e)
    have hm14 := g14 hm12 (by intro _ _ _ e; cases e)
    have hb14 := g14 hb12 (by intro _ _ _ e; cases e)
    have hds14 : ∀ (j : Nat) (d : Addr) (l : List Nat), ds[j]? = some d → (mks0 rs)[j]? = some l → _ := fun j d l e1 e2 => g14 (hds12 j d l e1 e2) (by intro _ _ _ e; cases e)
    have nqf0 := k12.free hx12 nqf12
    have efh : qh ≠ qf := fun e => by rw [e, nqf12] at hh12; cases hh12
    have efm : mr ≠ qf := fun e => by rw [e, nqf12] at hm12; cases hm12
    have efb : qb ≠ qf := fun e => by rw [e, nqf12] at hb12; cases hb12
    show tSeq _ _ _ _ (upd H13 x (.ins (He.ga K "Tree") dx [("holders", .ref qh), ("mark_rows", .ref mr), ("besides", .ref qb), ("firsts", .ref qf)]))
    generalize upd H13 x (.ins (He.ga K "Tree") dx [("holders", .ref qh), ("mark_rows", .ref mr), ("besides", .ref qb), ("firsts", .ref qf)]) = H14 at k14 hb14 hx14 hh14 hm14 hds14 hf14
    clear g14 hf2 s2 hx12 hh12 hm12 hds12 k12 nqf12 hb12
    refine seqI fun K1 k1 => ?_
    walk_at "rd"
    refine ⟨⟨by decide, by decide, by omega, by omega, by omega⟩, fun qn nqn => ?_⟩
    rw [rg_ni]
    have s2 := same_new (o := .lst (ni (List.range' 1 n))) nqn
    have hn2 : (upd H14 qn (.lst (ni (List.range' 1 n)))) qn = some (.lst (ni (List.range' 1 n))) := upd_same
    generalize upd H14 qn (.lst (ni (List.range' 1 n))) = H15 at s2 hn2
    refine ⟨_, _, _, s2 _ _ hx14, T.cl_Tree, T.n_Tree_numbers_now, (by show 4 < 1000; decide), k1 _ _ ?_⟩
    clear k1
    have k16 : Kx x H (upd H15 x (.ins (He.ga K "Tree") dx [("holders", .ref qh), ("mark_rows", .ref mr), ("besides", .ref qb), ("firsts", .ref qf), ("numbers_now", .ref qn)])) := fun a o ne h => by
      rw [upd_ne ne]
      exact s2 _ _ (k14 a o ne h)
    have g16 : ∀ {a : Addr} {o : HO}, H14 a = some o → (∀ C dx fs, o ≠ .ins C dx fs) → (upd H15 x (.ins (He.ga K "Tree") dx [("holders", .ref qh), ("mark_rows", .ref mr), ("besides", .ref qb), ("firsts", .ref qf), ("numbers_now", .ref qn)])) a = some o := fun h no => by
      rw [upd_ne (ne_of h hx14 (fun e => no _ _ _ e))]
      exact s2 _ _ h
    have hn16 : (upd H15 x (.ins (He.ga K "Tree") dx [("holders", .ref qh), ("mark_rows", .ref mr), ("besides", .ref qb), ("firsts", .ref qf), ("numbers_now", .ref qn)])) qn = some (.lst (ni (List.range' 1 n))) := by
      rw [upd_ne (ne_of hn2 (s2 _ _ hx14) (by intro z; cases z))]
      exact hn2
    have hx16 : (upd H15 x (.ins (He.ga K "Tree") dx [("holders", .ref qh), ("mark_rows", .ref mr), ("besides", .ref qb), ("firsts", .ref qf), ("numbers_now", .ref qn)])) x = some (.ins (He.ga K "Tree") dx [("holders", .ref qh), ("mark_rows", .ref mr), ("besides", .ref qb), ("firsts", .ref qf), ("numbers_now", .ref qn)]) := upd_same
    have hh16 := g16 hh14 (by intro _ _ _ e; cases e)
    have hm16 := g16 hm14 (by intro _ _ _ e; cases e)
    have hb16 := g16 hb14 (by intro _ _ _ e; cases e)
    have hf16 := g16 hf14 (by intro _ _ _ e; cases e)
    have hds16 : ∀ (j : Nat) (d : Addr) (l : List Nat), ds[j]? = some d → (mks0 rs)[j]? = some l → _ := fun j d l e1 e2 => g16 (hds14 j d l e1 e2) (by intro _ _ _ e; cases e)
    have nqn0 := k14.free hx14 nqn
    have enh : qh ≠ qn := fun e => by rw [e, nqn] at hh14; cases hh14
    have enm : mr ≠ qn := fun e => by rw [e, nqn] at hm14; cases hm14
    have enb : qb ≠ qn := fun e => by rw [e, nqn] at hb14; cases hb14
    have enf : qf ≠ qn := fun e => by rw [e, nqn] at hf14; cases hf14
    show tFor _ _ _ _ _ (upd H15 x (.ins (He.ga K "Tree") dx [("holders", .ref qh), ("mark_rows", .ref mr), ("besides", .ref qb), ("firsts", .ref qf), ("numbers_now", .ref qn)]))
    generalize upd H15 x (.ins (He.ga K "Tree") dx [("holders", .ref qh), ("mark_rows", .ref mr), ("besides", .ref qb), ("firsts", .ref qf), ("numbers_now", .ref qn)]) = H16 at k16 hb16 hx16 hh16 hm16 hds16 hf16 hn16
    clear g16 hn2 s2 hx14 hh14 hm14 hds14 k14 nqn hb14 hf14
    refine forI fun R0 hR => ?_
    refine ⟨_, rfl, 1, rfl, (n : Int), 0, -1, n, rfl, ?_, hR _ _ ?_⟩
    · have := RgC.neg (i := (n : Int)) (j := 0) (by omega) (by omega) (by decide) (by decide)
      rw [show ((n : Int) - 0).toNat = n by omega] at this
      exact this
    clear hR
    refine for_rangeC (lo := (n : Int)) (c := -1) (n := n) (fun i σ H' => ∃ (v4 v8 : Option V) (b f : List Nat), σ = [some (.ref x), some (.ref p), some (.int (n : Nat)), v3, v4, v5, v6, v7, v8, v9] ∧ Fill hol n (n - i) b f ∧ H' qb = some (.lst (ni b)) ∧ H' qf = some (.lst (ni f)) ∧ ∀ a o, a ≠ qb → a ≠ qf → H16 a = some o → H' a = some o) ⟨v4, v8, _, _, rfl, Fill.zero hol n, hb16, hf16, fun a o _ _ h => h⟩ ?_ ?_
    · rintro i σ H' hi ⟨v4, v8, b, f, rfl, FI, hb, hf, kp⟩
      obtain ⟨t, et⟩ : ∃ t, n - i = t + 1 := ⟨n - i - 1, by omega⟩
      have ev : (n : Int) + (i : Nat) * -1 = ((t + 1 : Nat) : Int) := by omega
      have et2 : n - (i + 1) = t := by omega
      rw [ev, et2]
      rw [et] at FI
      have hx' := kp _ _ (ne_of hx16 hb16 (by intro z; cases z)) (ne_of hx16 hf16 (by intro z; cases z)) hx16
      have hh' := kp _ _ ebh efh hh16
      have ht : t + 1 ≤ n := by omega
      refine seqI fun K1 k1 => ?_
      walk_at "rd"
      refine ⟨_, _, _, hx', T.cl_Tree, T.n_Tree_holders, _, rfl, _, rfl, _, hh', _, ni_at (by omega), k1 _ _ ?_⟩
      clear k1
      have hg := getD_le (i := t + 1) vh
      generalize eg : hol.getD (t + 1) 0 = g at hg
      refine ifI fun A2 B2 ka kb => ?_
      walk_at "rd"
      by_cases g0 : g = 0
      · rw [if_pos (by omega)]
        refine kb _ ?_
        walk_at "rd"
        exact ⟨_, _, FI.root ht (by rw [eg, g0]), hb, hf, kp⟩
      rw [if_neg (by omega)]
      refine ka _ ?_
      clear ka kb
      have hx2 : (upd H' qb (.lst (ni (b.set (t + 1) (f.getD g 0))))) x = some (.ins (He.ga K "Tree") dx [("holders", .ref qh), ("mark_rows", .ref mr), ("besides", .ref qb), ("firsts", .ref qf), ("numbers_now", .ref qn)]) := by
        rw [upd_ne (ne_of hx' hb (by intro z; cases z))]
        exact hx'
      have hf2 : (upd H' qb (.lst (ni (b.set (t + 1) (f.getD g 0))))) qf = some (.lst (ni f)) := by
        rw [upd_ne (Ne.symm efb)]
        exact hf
      walk_at "rd"
      refine ⟨_, _, _, hx', T.cl_Tree, T.n_Tree_firsts, _, rfl, _, rfl, _, hf, _, ni_at (by rw [FI.lf]; omega), ?_⟩
      refine ⟨_, _, _, hx', T.cl_Tree, T.n_Tree_besides, _, rfl, _, rfl, _, hb, t + 1, ix_ni (by rw [FI.lb]; omega), ?_⟩
      rw [ni_set]
      refine ⟨_, _, _, hx2, T.cl_Tree, T.n_Tree_firsts, _, rfl, _, rfl, _, hf2, g, ix_ni (by rw [FI.lf]; omega), ?_⟩
      rw [ni_set]
      refine ⟨_, _, FI.step ht eg g0 hg, ?_, upd_same, fun a o e1 e2 h => ?_⟩
      · rw [upd_ne efb, upd_same]
      · rw [upd_ne e2, upd_ne e1]
        exact kp a o e1 e2 h
    · rintro σ H' ⟨v4, v8, b, f, rfl, FI, hb, hf, kp⟩
      rw [Nat.sub_self] at FI
      subst eh
      obtain ⟨ok, F⟩ := FI.tree R
      have en : Tr.n ⟨0 :: rs.map fun r => r.1, b, f, mks0 rs⟩ = n := by
        unfold Tr.n
        rw [List.length_cons, List.length_map, R.len]
        omega
      refine q ⟨qh, mr, qb, qf, qn, ds⟩ _ H' (fun a o ne h => kp a o (fun e => by rw [e, nqb0] at h; cases h) (fun e => by rw [e, nqf0] at h; cases h) (k16 a o ne h)) ?_ ⟨⟨dx, kp _ _ (ne_of hx16 hb16 (by intro z; cases z)) (ne_of hx16 hf16 (by intro z; cases z)) hx16⟩, kp _ _ ebh efh hh16, hb, hf, ?_, kp _ _ ebm efm hm16, ?_, fun j d l e1 e2 => ?_, nds, ?_⟩ ok rfl rfl F
      · intro a ha
        simp only [TrO.own, List.mem_cons] at ha
        rcases ha with rfl | rfl | rfl | rfl | rfl | ha
        · exact nh0
        · exact nmr0
        · exact nqb0
        · exact nqf0
        · exact nqn0
        · exact fds a ha
      · rw [en]
        exact kp _ _ (Ne.symm enb) (Ne.symm enf) hn16
      · show ds.length = (mks0 rs).length
        rw [ld, mks0, List.length_cons, List.length_map, R.len]
      · have h := hds16 j d l e1 e2
        exact kp _ _ (Ne.symm (lst_ne_dk hb16 h)) (Ne.symm (lst_ne_dk hf16 h)) h
      · simp only [List.nodup_cons, List.mem_cons, List.not_mem_nil, or_false, not_or, not_false_eq_true, List.nodup_nil, and_true]
        exact ⟨⟨ebh, efh, enh, qm⟩, ⟨efb, enb, Ne.symm ebm⟩, ⟨enf, Ne.symm efm⟩, Ne.symm enm⟩
end
section
variable {P : Program} {w : World} {K : PySem.W.Frag} {mg : Str → Option Value} {base : Heap}
theorem ok_are_marks (S : Src K mg "are_marks" s_are_marks) (T : Tx P K mg) (C_is_integer : Cal P w K mg base CX0 1 "is_integer" ["thing", "low", "high"] spIsI)  : Cal P w K mg base CX0 2 "are_marks" ["thing", "most"] spAreM := by
  refine S.cal sc_are_marks bn_are_marks (fun vs H Q E h => ?_) (fun f cdv A outer s H vs Q E hr h => ?_)
  · first | (obtain ⟨rfl, _⟩ := h; rfl) | (obtain ⟨_, rfl, _⟩ := h; rfl) | (obtain ⟨_, _, rfl, _⟩ := h; rfl) | (obtain ⟨_, _, _, rfl, _⟩ := h; rfl) | (obtain ⟨_, _, _, _, rfl, _⟩ := h; rfl) | (obtain ⟨_, _, _, _, _, rfl, _⟩ := h; rfl) | (obtain ⟨_, _, _, _, _, _, rfl, _⟩ := h; rfl) | (obtain ⟨_, _, _, _, _, _, _, rfl, _⟩ := h; rfl) | (obtain ⟨_, _, _, _, _, _, _, _, rfl, _⟩ := h; rfl) | (obtain ⟨_, _, _, _, _, _, _, _, _, rfl, _⟩ := h; rfl) | (obtain ⟨_, _, _, _, _, _, _, _, _, _, rfl, _⟩ := h; rfl) | (obtain ⟨_, _, _, _, _, _, _, _, _, _, _, rfl, _⟩ := h; rfl) | (obtain ⟨_, _, _, _, _, _, _, _, _, _, _, _, rfl, _⟩ := h; rfl)
  · skip
    refine ⟨_, (pss_cons (ps_if (pt_not (pt_val (Fx.pe_cB Fx.is_B T.b_isinstance (by decide +kernel) (Fx.pa_c (pv 0) (Fx.pa_c (pe_bltn (v := .ty "tuple") (by rfl) T.b_tuple (by decide +kernel) rfl) pa_nil))))) (pss_one (ps_ret pe_bl)) pss_nil)
        (pss_cons (ps_for PassesOwn.never rfl (Fx.pi_enumQ rfl T.b_enumerate (Fx.pa_c (pv 0) pa_nil)) (pg_tup rfl (pgs_cons (pg_name (i := 2) sc_are_marks.nd rfl (Or.inl rfl)) (pgs_cons (pg_name (i := 3) sc_are_marks.nd rfl (Or.inl rfl)) pgs_nil))) (pss_cons (ps_if (pt_not (pt_val (Fx.pe_cal C_is_integer (hr.mono (by decide)) pass0 (Fx.pa_c (pv 3) (Fx.pa_c pe_int (Fx.pa_c (pe_op op_sub (pv 1) pe_int) pa_nil)))))) (pss_one (ps_ret pe_bl)) pss_nil)
        (pss_one (ps_if (PW.pt (pw_and (pt_cmpR op_gt (pv 2) pe_int (nomark _)) (pw_and1 (pt_cmpR op_ge (pe_ix Fx.ix_Q (pv 0) (pe_op op_sub (pv 2) pe_int) (fun _ _ => rfl)) (pv 3) (nomark _))))) (pss_one (ps_ret pe_bl)) pss_nil))))
        (pss_one (ps_ret pe_bl)))), ?_⟩
    obtain ⟨p, l, rfl, hp, hs, h32, q⟩ := h
    refine seqI fun K1 k1 => ?_
    walk_at "rd"
    refine ⟨"tuple", tyv_tp hp, true, rfl, ?_⟩
    rw [if_neg (by decide)]
    refine k1 _ _ ?_
    clear k1
    refine seqI fun K1 k1 => ?_
    refine for_enumQ (K := K) (a := p) (xs := ni l) (fun Q h => ⟨_, rfl, h⟩) (.inr hp) (fun i σ H' => ∃ v2 v3 : Option V, σ = [some (.ref p), some (.int 32), v2, v3] ∧ Same H H') ⟨none, none, rfl, Same.refl H⟩ ?_ ?_ ?_
    · rintro i σ H' ⟨_, _, _, s⟩ o e
      exact s _ _ e
    · rintro i y T' σ H' hy ⟨v2, v3, rfl, s1⟩ nT
      have hil := (List.getElem?_eq_some_iff.mp hy).1
      rw [ni_len] at hil
      have hy2 := hy
      rw [ni_get hil] at hy2
      cases hy2
      have sT := same_new (o := .tup [.int (i : Nat), .int (l.getD i 0 : Nat)]) nT
      have hm : l.getD i 0 < 32 := h32 _ (by rw [List.getD_eq_getElem?_getD, List.getElem?_eq_getElem hil]; exact List.getElem_mem hil)
      refine ⟨T', _, rfl, .inl (.inl upd_same), rfl, _, _, rfl, _, _, rfl, rfl, ?_⟩
      have s2 := s1.trans sT
      refine seqI fun K1 k1 => ?_
      walk_at "rd"
      refine ⟨_, _, _, rfl, .inl ⟨_, rfl, by omega, by omega, _, rfl, ?_⟩⟩
      rw [if_neg (by decide)]
      refine k1 _ _ ?_
      clear k1
      walk_at "rd"
      by_cases g : i = 0
      · rw [if_neg (by omega)]
        exact s2
      · rw [if_pos (by omega)]
        obtain ⟨i, rfl⟩ : ∃ q, i = q + 1 := ⟨i - 1, by omega⟩
        have e : (((i + 1 : Nat) : Int) - 1) = (i : Nat) := by omega
        rw [e]
        have lt : l.getD i 0 < l.getD (i + 1) 0 := by
          rw [List.getD_eq_getElem?_getD, List.getD_eq_getElem?_getD, List.getElem?_eq_getElem (by omega : i < l.length), List.getElem?_eq_getElem hil]
          exact List.pairwise_iff_getElem.mp hs i (i + 1) _ _ (Nat.lt_succ_self _)
        refine ⟨_, .inr (s2 _ _ hp), _, ni_at (by omega), _, rfl, ?_⟩
        rw [if_neg (by omega)]
        exact s2
    · rintro σ H' ⟨v2, v3, rfl, s1⟩
      refine k1 _ _ ?_
      walk_at "rd"
      exact q H' s1
end
section
variable {P : Program} {w : World} {K : PySem.W.Frag} {mg : Str → Option Value} {base : Heap}
theorem ok_is_row (S : Src K mg "is_row" s_is_row) (T : Tx P K mg) (C_are_marks : Cal P w K mg base CX0 2 "are_marks" ["thing", "most"] spAreM) (C_is_integer : Cal P w K mg base CX0 1 "is_integer" ["thing", "low", "high"] spIsI)  : Cal P w K mg base CX0 3 "is_row" ["row", "most", "many"] spIsRow := by
  refine S.cal sc_is_row bn_is_row (fun vs H Q E h => ?_) (fun f cdv A outer s H vs Q E hr h => ?_)
  · first | (obtain ⟨rfl, _⟩ := h; rfl) | (obtain ⟨_, rfl, _⟩ := h; rfl) | (obtain ⟨_, _, rfl, _⟩ := h; rfl) | (obtain ⟨_, _, _, rfl, _⟩ := h; rfl) | (obtain ⟨_, _, _, _, rfl, _⟩ := h; rfl) | (obtain ⟨_, _, _, _, _, rfl, _⟩ := h; rfl) | (obtain ⟨_, _, _, _, _, _, rfl, _⟩ := h; rfl) | (obtain ⟨_, _, _, _, _, _, _, rfl, _⟩ := h; rfl) | (obtain ⟨_, _, _, _, _, _, _, _, rfl, _⟩ := h; rfl) | (obtain ⟨_, _, _, _, _, _, _, _, _, rfl, _⟩ := h; rfl) | (obtain ⟨_, _, _, _, _, _, _, _, _, _, rfl, _⟩ := h; rfl) | (obtain ⟨_, _, _, _, _, _, _, _, _, _, _, rfl, _⟩ := h; rfl) | (obtain ⟨_, _, _, _, _, _, _, _, _, _, _, _, rfl, _⟩ := h; rfl)
  · skip
    refine ⟨_, (pss_cons (ps_if (PW.pt (pw_or (pt_not (pt_val (Fx.pe_cB Fx.is_B T.b_isinstance (by decide +kernel) (Fx.pa_c (pv 0) (Fx.pa_c (pe_bltn (v := .ty "tuple") (by rfl) T.b_tuple (by decide +kernel) rfl) pa_nil))))) (pw_or (pt_cmpR op_ne (Fx.pe_cB Fx.len_T T.b_len (by decide +kernel) (Fx.pa_c (pv 0) pa_nil)) pe_int (nomark _)) (pw_or1 (pt_not (pt_val (Fx.pe_cal C_are_marks (hr.mono (by decide)) pass0 (Fx.pa_c (pe_ix Fx.ix_T (pv 0) pe_int (fun _ _ => rfl)) (Fx.pa_c (pv 1) pa_nil))))))))) (pss_one (ps_ret pe_bl)) pss_nil)
        (pss_one (ps_ret (pe_and (Fx.pe_cal C_is_integer (hr.mono (by decide)) pass0 (Fx.pa_c (pe_ix Fx.ix_T (pv 0) pe_int (fun _ _ => rfl)) (Fx.pa_c pe_int (Fx.pa_c (pv 2) pa_nil)))) (pe_and (Fx.pe_cal C_is_integer (hr.mono (by decide)) pass0 (Fx.pa_c (pe_ix Fx.ix_T (pv 0) pe_int (fun _ _ => rfl)) (Fx.pa_c pe_int (Fx.pa_c (pv 2) pa_nil)))) (pe_one (Fx.pe_cal C_is_integer (hr.mono (by decide)) pass0 (Fx.pa_c (pe_ix Fx.ix_T (pv 0) pe_int (fun _ _ => rfl)) (Fx.pa_c pe_int (Fx.pa_c (pv 2) pa_nil)))))))))), ?_⟩
    obtain ⟨a, r, n, rfl, ⟨m, ha, hm⟩, hs, h32, h1, h2, h3, n60, q⟩ := h
    walk_at "rd"
    refine ⟨"tuple", tyv_tp ha, true, rfl, ?_⟩
    rw [if_neg (by decide)]
    refine ⟨_, ha, ?_⟩
    rw [if_pos (by rfl)]
    refine ⟨_, ha, _, rfl, m, r.1, rfl, hm, hs, h32, fun H1 s1 => ⟨_, rfl, ?_⟩⟩
    rw [if_neg (by decide)]
    refine ⟨_, s1 _ _ ha, _, rfl, _, _, _, rfl, .inl ⟨_, rfl, by omega, by omega, _, rfl, ?_⟩⟩
    rw [if_pos rfl]
    refine ⟨_, s1 _ _ ha, _, rfl, _, _, _, rfl, .inl ⟨_, rfl, by omega, by omega, _, rfl, ?_⟩⟩
    rw [if_pos rfl]
    refine ⟨_, s1 _ _ ha, _, rfl, _, _, _, rfl, .inl ⟨_, rfl, by omega, by omega, ?_⟩⟩
    exact q H1 s1
end
section
variable {P : Program} {w : World} {K : PySem.W.Frag} {mg : Str → Option Value} {base : Heap}
theorem ok_is_row_of_parts (S : Src K mg "is_row_of_parts" s_is_row_of_parts) (T : Tx P K mg)   : Cal P w K mg base CX0 1 "is_row_of_parts" ["holders", "besides", "first", "thing"] spRowP := by
  refine S.cal sc_is_row_of_parts bn_is_row_of_parts (fun vs H Q E h => ?_) (fun f cdv A outer s H vs Q E hr h => ?_)
  · first | (obtain ⟨rfl, _⟩ := h; rfl) | (obtain ⟨_, rfl, _⟩ := h; rfl) | (obtain ⟨_, _, rfl, _⟩ := h; rfl) | (obtain ⟨_, _, _, rfl, _⟩ := h; rfl) | (obtain ⟨_, _, _, _, rfl, _⟩ := h; rfl) | (obtain ⟨_, _, _, _, _, rfl, _⟩ := h; rfl) | (obtain ⟨_, _, _, _, _, _, rfl, _⟩ := h; rfl) | (obtain ⟨_, _, _, _, _, _, _, rfl, _⟩ := h; rfl) | (obtain ⟨_, _, _, _, _, _, _, _, rfl, _⟩ := h; rfl) | (obtain ⟨_, _, _, _, _, _, _, _, _, rfl, _⟩ := h; rfl) | (obtain ⟨_, _, _, _, _, _, _, _, _, _, rfl, _⟩ := h; rfl) | (obtain ⟨_, _, _, _, _, _, _, _, _, _, _, rfl, _⟩ := h; rfl) | (obtain ⟨_, _, _, _, _, _, _, _, _, _, _, _, rfl, _⟩ := h; rfl)
  · skip
    refine ⟨_, (pss_cons (ps_set (i := 4) sc_is_row_of_parts.nd rfl (Or.inl rfl) (pe_lst pa_nil))
        (pss_cons (ps_set (i := 5) sc_is_row_of_parts.nd rfl (Or.inl rfl) (pv 2))
        (pss_cons (ps_while PassesOwn.never (pt_cmpR op_ne (pv 5) pe_int (nomark _)) (pss_cons (ps_if (PW.pt (pw_or (pt_cmpR op_in_seq (pv 5) (pv 4) rfl) (pw_or1 (pt_cmpR op_ne (pe_ix Fx.ix_L (pv 0) (pv 5) (fun _ _ => rfl)) (pv 3) (nomark _))))) (pss_one (ps_ret pe_bl)) pss_nil)
        (pss_cons (ps_expr (pe_bm PySem.F.plainAttrs_list PySem.F.slot_list_append PySem.F.type_list_append mt_append (pv 4) (Fx.pa_c (pv 5) pa_nil)))
        (pss_one (ps_set (i := 5) sc_is_row_of_parts.nd rfl (Or.inl rfl) (pe_ix Fx.ix_L (pv 1) (pv 5) (fun _ _ => rfl)))))))
        (pss_one (ps_ret (pe_cmpR op_eq (Fx.pe_cB Fx.len_L T.b_len (by decide +kernel) (Fx.pa_c (pv 4) pa_nil)) (Fx.pe_cB Fx.len_L T.b_len (by decide +kernel) (Fx.pa_c (pe_lc (own := [("one", 6)]) rfl sc_is_row_of_parts.nd (pi_range2 rfl T.b_range (Fx.pa_c pe_int (Fx.pa_c (Fx.pe_cB Fx.len_L T.b_len (by decide +kernel) (Fx.pa_c (pv 0) pa_nil)) pa_nil))) (blkOk_by (N := N_is_row_of_parts) (sc := defScope s_is_row_of_parts) (by decide +kernel)) (fun _ _ _ _ _ => (pg_name (i := 6) sc_is_row_of_parts.nd rfl (Or.inl rfl))) (fun _ _ _ _ _ => (pts_one (pt_cmpR op_eq (pe_ix Fx.ix_L (pv 0) (pv 6) (fun _ _ => rfl)) (pv 3) (nomark _)))) (fun _ _ _ _ _ => (pv 6))) pa_nil)) (nomark _))))))), ?_⟩
    obtain ⟨a, b, hol, bes, P, h, n, f, rfl, ha, hb, n60, lh, lb, h1, hh, hP, hc, q⟩ := h
    have fz := nodup_lt hP.1 (n := n + 1) fun z hz => by have := ((hP.2 z).mp hz).2.1; omega
    refine seqI fun K1 k1 => ?_
    walk_at "rd"
    refine ⟨by decide, fun p np => k1 _ _ ?_⟩
    clear k1
    have sp := same_new (o := .lst []) np
    refine seqI fun K1 k1 => ?_
    walk_at "rd"
    refine k1 _ _ ?_
    clear k1
    refine seqI fun K1 k1 => ?_
    refine whileF (fun m σ H' => ∃ (g : Nat) (ds rs : List Nat), σ = [some (.ref a), some (.ref b), some (.int f), some (.int h), some (.ref p), some (.int g), none] ∧ P = ds ++ rs ∧ m = rs.length ∧ Chain bes g rs ∧ H' = upd H p (.lst (ni ds))) P.length ⟨f, [], P, rfl, rfl, rfl, hc, rfl⟩ ?_
    rintro m σ H' ⟨g, ds, rs, rfl, eP, rfl, hc, rfl⟩ A2 B2 ka kb
    have sq := same_new (o := .lst (ni ds)) np
    walk_at "rd"
    cases rs with
    | nil =>
      have hc : g = 0 := hc
      rw [if_pos (by omega)]
      refine kb _ (k1 _ _ ?_)
      clear ka kb k1
      rw [List.append_nil] at eP
      walk_at "rd"
      generalize htt : tTest _ = tt
      generalize hte : tVar 6 = te
      generalize hg : gName 6 = g0
      unfold tLc
      walk_at "rd"
      have en : (((ni hol).length : Nat) : Int) - 1 = (n : Nat) := by
        rw [ni_len, lh]
        omega
      refine ⟨_, sq _ _ ha, by decide, by decide, sz0 (by rw [ni_len, lh]; omega), sz1 (by rw [ni_len, lh]; omega), fun D nD => ?_⟩
      rw [en, Int.toNat_natCast]
      refine lc_range (lo := 1) (n := n) (g := g0) (tt := tt) (te := te) (vs := [6]) (σ := [some (.ref a), some (.ref b), some (.int f), some (.int h), some (.ref p), some (.int g), none]) (fun i H' => H' D = some (.lst (ni ((List.range' 1 i).filter fun t => decide (hol.getD t 0 = h)))) ∧ Same (upd H p (.lst (ni ds))) H') ⟨upd_same, same_new nD⟩ ?_ ?_
      · rintro i H1 hi ⟨hD, s1⟩
        have ei : (1 : Int) + (i : Nat) = ((i + 1 : Nat) : Int) := by omega
        rw [ei, ← hte, ← hg, ← htt]
        refine ⟨rfl, ?_⟩
        walk_at "rd"
        refine ⟨_, (sq.trans s1) _ _ ha, _, ni_at (by omega), rfl, ?_⟩
        rw [List.range'_concat, List.filter_append]
        have lf : ((List.range' 1 i).filter fun t => decide (hol.getD t 0 = h)).length < sizeLine := by
          have := List.length_filter_le (fun t => decide (hol.getD t 0 = h)) (List.range' 1 i)
          rw [List.length_range'] at this
          exact Nat.lt_of_lt_of_le (by omega : _ < 100) (by decide)
        have e1 : 1 + 1 * i = i + 1 := by omega
        rw [e1]
        by_cases g2 : hol.getD (i + 1) 0 = h
        · rw [if_pos (by rw [g2]), List.filter_cons_of_pos (by simpa using g2)]
          refine ⟨_, hD, by rw [ni_len]; exact lf, ?_, Same.put s1 nD⟩
          rw [ni, ni, List.map_append]
          rfl
        · rw [if_neg (fun z => g2 (by have := V.int.inj z; omega)), List.filter_cons_of_neg (by simpa using g2)]
          rw [List.filter_nil, List.append_nil]
          exact ⟨hD, s1⟩
      · rintro H1 ⟨hD, s1⟩
        have el : ((List.range' 1 n).filter fun t => decide (hol.getD t 0 = h)).length = ds.length := by
          refine ((List.perm_ext_iff_of_nodup ((List.nodup_range' ..).filter _) (by rw [← eP]; exact hP.1)).mpr fun t => ?_).length_eq
          rw [← eP, hP.2 t, List.mem_filter, List.mem_range'_1, decide_eq_true_eq]
          exact ⟨fun z => ⟨z.1.1, by omega, z.2⟩, fun z => ⟨⟨z.1, by omega⟩, z.2.2⟩⟩
        refine ⟨_, hD, ?_⟩
        rw [ni_len, ni_len, el, decide_eq_true rfl]
        exact q _ (sq.trans s1)
    | cons c rs =>
      obtain ⟨rfl, hg0, hc⟩ := hc
      rw [if_neg (by omega)]
      refine ka _ ?_
      clear ka kb k1
      have hgm := (hP.2 g).mp (by rw [eP]; exact List.mem_append_right _ List.mem_cons_self)
      have hgn : g ∉ ds := fun z => by
        have := hP.1
        rw [eP] at this
        exact (List.nodup_append.mp this).2.2 g z g List.mem_cons_self rfl
      have hds : ds.length < sizeLine := by
        have e := congrArg List.length eP
        rw [List.length_append] at e
        exact Nat.lt_of_lt_of_le (by omega : _ < 100) (by decide)
      refine seqI fun K1 k1 => ?_
      walk_at "rd"
      refine ⟨p, _, rfl, .inl (.inl (.inl upd_same)), rfl, flat_ni _, false, by rw [inV_ni, decide_eq_false hgn]; rfl, ?_⟩
      rw [if_neg (by decide)]
      refine ⟨_, sq _ _ ha, _, ni_at (by omega), rfl, ?_⟩
      rw [if_pos (by rw [hgm.2.2])]
      refine k1 _ _ ?_
      clear k1
      have sr := same_new (o := .lst (ni ds ++ [.int (g : Nat)])) np
      have en : ni ds ++ [.int (g : Nat)] = ni (ds ++ [g]) := by
        rw [ni, ni, List.map_append]
        rfl
      walk_at "rd"
      refine ⟨tyL upd_same, ?_⟩
      walk_at "rd"
      rw [upd_upd]
      exact ⟨by rw [ni_len]; exact hds, _, sr _ _ hb, _, ni_at (by omega), _, Nat.lt_succ_self _, _, rfl, ds ++ [g], rs, by rw [eP]; simp, rfl, hc, by rw [en]⟩
end
section
variable {P : Program} {w : World} {K : PySem.W.Frag} {mg : Str → Option Value} {base : Heap}
theorem ok_has_no_place (S : Src K mg "has_no_place" s_has_no_place) (T : Tx P K mg)   : Cal P w K mg base CX0 1 "has_no_place" ["holders", "thing"] spNoPlace := by
  refine S.cal sc_has_no_place bn_has_no_place (fun vs H Q E h => ?_) (fun f cdv A outer s H vs Q E hr h => ?_)
  · first | (obtain ⟨rfl, _⟩ := h; rfl) | (obtain ⟨_, rfl, _⟩ := h; rfl) | (obtain ⟨_, _, rfl, _⟩ := h; rfl) | (obtain ⟨_, _, _, rfl, _⟩ := h; rfl) | (obtain ⟨_, _, _, _, rfl, _⟩ := h; rfl) | (obtain ⟨_, _, _, _, _, rfl, _⟩ := h; rfl) | (obtain ⟨_, _, _, _, _, _, rfl, _⟩ := h; rfl) | (obtain ⟨_, _, _, _, _, _, _, rfl, _⟩ := h; rfl) | (obtain ⟨_, _, _, _, _, _, _, _, rfl, _⟩ := h; rfl) | (obtain ⟨_, _, _, _, _, _, _, _, _, rfl, _⟩ := h; rfl) | (obtain ⟨_, _, _, _, _, _, _, _, _, _, rfl, _⟩ := h; rfl) | (obtain ⟨_, _, _, _, _, _, _, _, _, _, _, rfl, _⟩ := h; rfl) | (obtain ⟨_, _, _, _, _, _, _, _, _, _, _, _, rfl, _⟩ := h; rfl)
  · skip
    refine ⟨_, (pss_cons (ps_set (i := 2) sc_has_no_place.nd rfl (Or.inl rfl) (pv 1))
        (pss_cons (ps_for PassesOwn.never rfl (pi_list (pv 0)) (pg_name (i := 3) sc_has_no_place.nd rfl (Or.inl rfl)) (pss_cons (ps_if (pt_cmpR op_eq (pv 2) pe_int (nomark _)) (pss_one (ps_ret pe_bl)) pss_nil)
        (pss_one (ps_set (i := 2) sc_has_no_place.nd rfl (Or.inl rfl) (pe_ix Fx.ix_L (pv 0) (pv 2) (fun _ _ => rfl))))))
        (pss_one (ps_ret (pe_cmpR op_ne (pv 2) pe_int (nomark _)))))), ?_⟩
    obtain ⟨p, hol, n, i, r, rfl, hp, lh, hb, h0, hr, i1, hi, n60, q⟩ := h
    refine seqI fun K1 k1 => ?_
    walk_at "rd"
    refine k1 _ _ ?_
    clear k1
    refine seqI fun K1 k1 => ?_
    refine ⟨_, rfl, p, rfl, ⟨_, .inl (.inl hp)⟩, for_list (K := K) (a := p) (xs := ni hol) (fun j σ H' => ∃ (at_ : Nat) (v3 : Option V), σ = [some (.ref p), some (.int (i : Nat)), some (.int (at_ : Nat)), v3] ∧ H' = H ∧ at_ ≤ n ∧ (at_ ≠ 0 → r at_ + j ≤ n)) ⟨i, none, rfl, rfl, hi, fun _ => (hr i i1 hi).2⟩ (fun j σ H' _ ⟨_, _, _, e, _⟩ => by rw [e]; exact .inl (.inl hp)) ?_ ?_⟩
    · rintro j y σ H' hy ⟨at_, v3, rfl, rfl, ha, hj⟩
      refine seqI fun K1 k1 => ?_
      walk_at "rd"
      by_cases g : at_ = 0
      · rw [if_pos (by omega)]
        exact q
      · rw [if_neg (by omega)]
        refine k1 _ _ ?_
        clear k1
        walk_at "rd"
        have := hr at_ (by omega) ha
        have := hj g
        exact ⟨_, hp, _, ni_at (by omega), _, rfl, getD_le hb, fun g2 => by
          have := hr at_ (by omega) ha
          omega⟩
    · rintro σ H' ⟨at_, v3, rfl, rfl, ha, hj⟩
      refine k1 _ _ ?_
      clear k1
      walk_at "rd"
      have e : at_ = 0 := Classical.byContradiction fun g => by
        have := hj g
        rw [ni_len] at this
        omega
      rw [decide_eq_true (by omega)]
      exact q
end
section
variable {P : Program} {w : World} {K : PySem.W.Frag} {mg : Str → Option Value} {base : Heap}
theorem ok_check_rows (S : Src K mg "check_rows" s_check_rows) (T : Tx P K mg) (C_is_row : Cal P w K mg base CX0 3 "is_row" ["row", "most", "many"] spIsRow) (C_is_row_of_parts : Cal P w K mg base CX0 1 "is_row_of_parts" ["holders", "besides", "first", "thing"] spRowP) (C_has_no_place : Cal P w K mg base CX0 1 "has_no_place" ["holders", "thing"] spNoPlace)  : Cal P w K mg base CX0 4 "check_rows" ["rows", "most"] spCheck := by
  refine S.cal sc_check_rows bn_check_rows (fun vs H Q E h => ?_) (fun f cdv A outer s H vs Q E hr h => ?_)
  · first | (obtain ⟨rfl, _⟩ := h; rfl) | (obtain ⟨_, rfl, _⟩ := h; rfl) | (obtain ⟨_, _, rfl, _⟩ := h; rfl) | (obtain ⟨_, _, _, rfl, _⟩ := h; rfl) | (obtain ⟨_, _, _, _, rfl, _⟩ := h; rfl) | (obtain ⟨_, _, _, _, _, rfl, _⟩ := h; rfl) | (obtain ⟨_, _, _, _, _, _, rfl, _⟩ := h; rfl) | (obtain ⟨_, _, _, _, _, _, _, rfl, _⟩ := h; rfl) | (obtain ⟨_, _, _, _, _, _, _, _, rfl, _⟩ := h; rfl) | (obtain ⟨_, _, _, _, _, _, _, _, _, rfl, _⟩ := h; rfl) | (obtain ⟨_, _, _, _, _, _, _, _, _, _, rfl, _⟩ := h; rfl) | (obtain ⟨_, _, _, _, _, _, _, _, _, _, _, rfl, _⟩ := h; rfl) | (obtain ⟨_, _, _, _, _, _, _, _, _, _, _, _, rfl, _⟩ := h; rfl)
  · skip
    refine ⟨_, (pss_cons (ps_set (i := 2) sc_check_rows.nd rfl (Or.inl rfl) (Fx.pe_cB Fx.len_Q T.b_len (by decide +kernel) (Fx.pa_c (pv 0) pa_nil)))
        (pss_cons (ps_for PassesOwn.never rfl (Fx.pi_enumQ rfl T.b_enumerate (Fx.pa_c (pv 0) pa_nil)) (pg_tup rfl (pgs_cons (pg_name (i := 3) sc_check_rows.nd rfl (Or.inl rfl)) (pgs_cons (pg_name (i := 4) sc_check_rows.nd rfl (Or.inl rfl)) pgs_nil))) (pss_one (ps_if (pt_not (pt_val (Fx.pe_cal C_is_row (hr.mono (by decide)) pass0 (Fx.pa_c (pv 4) (Fx.pa_c (pv 1) (Fx.pa_c (pv 2) pa_nil)))))) (pss_one (ps_ret (pe_op op_add (pv 3) pe_int))) pss_nil)))
        (pss_cons (ps_set (i := 5) sc_check_rows.nd rfl (Or.inl rfl) (pe_op op_cat (pe_lst (Fx.pa_c pe_int pa_nil)) (pe_lc (own := [("row", 4)]) rfl sc_check_rows.nd (Fx.pi_Q (pv 0)) (blkOk_by (N := N_check_rows) (sc := defScope s_check_rows) (by decide +kernel)) (fun _ _ _ _ _ => (pg_name (i := 4) sc_check_rows.nd rfl (Or.inl rfl))) (fun _ _ _ _ _ => pts_nil) (fun _ _ _ _ _ => (pe_ix Fx.ix_T (pv 4) pe_int (fun _ _ => rfl))))))
        (pss_cons (ps_set (i := 6) sc_check_rows.nd rfl (Or.inl rfl) (pe_op op_cat (pe_lst (Fx.pa_c pe_int pa_nil)) (pe_lc (own := [("row", 4)]) rfl sc_check_rows.nd (Fx.pi_Q (pv 0)) (blkOk_by (N := N_check_rows) (sc := defScope s_check_rows) (by decide +kernel)) (fun _ _ _ _ _ => (pg_name (i := 4) sc_check_rows.nd rfl (Or.inl rfl))) (fun _ _ _ _ _ => pts_nil) (fun _ _ _ _ _ => (pe_ix Fx.ix_T (pv 4) pe_int (fun _ _ => rfl))))))
        (pss_cons (ps_for PassesOwn.never rfl (Fx.pi_enumQ rfl T.b_enumerate (Fx.pa_c (pv 0) pa_nil)) (pg_tup rfl (pgs_cons (pg_name (i := 3) sc_check_rows.nd rfl (Or.inl rfl)) (pgs_cons (pg_name (i := 4) sc_check_rows.nd rfl (Or.inl rfl)) pgs_nil))) (pss_cons (ps_if (pt_not (pt_val (Fx.pe_cal C_is_row_of_parts (hr.mono (by decide)) pass0 (Fx.pa_c (pv 5) (Fx.pa_c (pv 6) (Fx.pa_c (pe_ix Fx.ix_T (pv 4) pe_int (fun _ _ => rfl)) (Fx.pa_c (pe_op op_add (pv 3) pe_int) pa_nil))))))) (pss_one (ps_ret (pe_op op_add (pv 3) pe_int))) pss_nil)
        (pss_one (ps_if (PW.pt (pw_or (pt_val (Fx.pe_cal C_has_no_place (hr.mono (by decide)) pass0 (Fx.pa_c (pv 5) (Fx.pa_c (pe_op op_add (pv 3) pe_int) pa_nil)))) (pw_or1 (PW.pt (pw_and (pt_cmpR op_eq (pe_ix Fx.ix_T (pv 4) pe_int (fun _ _ => rfl)) pe_int (nomark _)) (pw_and1 (pt_cmpR op_ne (pe_ix Fx.ix_T (pv 4) pe_int (fun _ _ => rfl)) pe_int (nomark _)))))))) (pss_one (ps_ret (pe_op op_add (pv 3) pe_int))) pss_nil))))
        (pss_one (ps_ret pe_non))))))), ?_⟩
    obtain ⟨p, as, rs, hol, bes, P, n, rfl, hp, la, hr, R, q⟩ := h
    refine seqI fun K1 k1 => ?_
    walk_at "rd"
    refine ⟨_, hp, k1 _ _ ?_⟩
    clear k1
    have eL : ((as.map V.ref).length : Int) = (n : Nat) := by rw [List.length_map, la, R.len]
    rw [eL]
    have Sqs : ∀ {H1 H2 : Hp}, Sq H1 p (as.map V.ref) → Same H1 H2 → Sq H2 p (as.map V.ref) := fun h s => h.elim (fun h => .inl (s _ _ h)) fun h => .inr (s _ _ h)
    have rowA : ∀ {j : Nat} {y : V}, (as.map V.ref)[j]? = some y → ∃ a r, y = .ref a ∧ as[j]? = some a ∧ rs[j]? = some r ∧ r ∈ rs ∧ RowAt H a r ∧ j < n := fun {j y} hy => by
      have hj := (List.getElem?_eq_some_iff.mp hy).1
      rw [List.length_map] at hj
      rw [List.getElem?_map, List.getElem?_eq_getElem hj] at hy
      cases hy
      have hj2 : j < rs.length := by omega
      exact ⟨as[j], rs[j], rfl, List.getElem?_eq_getElem hj, List.getElem?_eq_getElem hj2, List.getElem_mem hj2, hr j _ _ (List.getElem?_eq_getElem hj) (List.getElem?_eq_getElem hj2), by rw [← R.len]; exact hj2⟩
    refine seqI fun K0 k0 => ?_
    refine for_enumQ (K := K) (a := p) (xs := as.map V.ref) (fun Q h => ⟨_, rfl, h⟩) hp (fun i σ H' => ∃ v3 v4 v5 v6 : Option V, σ = [some (.ref p), some (.int 32), some (.int (n : Nat)), v3, v4, v5, v6] ∧ Same H H') ⟨none, none, none, none, rfl, Same.refl H⟩ ?_ ?_ ?_
    · rintro i σ H' ⟨_, _, _, _, _, s⟩ o e
      exact s _ _ e
    · rintro i y T' σ H' hy ⟨v3, v4, v5, v6, rfl, s1⟩ nT
      obtain ⟨a, r, rfl, ha, hr2, hm, hra, hin⟩ := rowA hy
      have sT := same_new (o := .tup [.int (i : Nat), .ref a]) nT
      refine ⟨T', _, rfl, .inl (.inl upd_same), rfl, _, _, rfl, _, _, rfl, rfl, ?_⟩
      have g := R.row r hm
      walk_at "rd"
      refine ⟨a, r, n, rfl, hra.same (s1.trans sT), g.1, g.2.1, g.2.2.1, g.2.2.2.1, g.2.2.2.2, R.n60, fun H1 s2 => ⟨_, rfl, ?_⟩⟩
      rw [if_neg (by decide)]
      exact (s1.trans sT).trans s2
    rintro σ H1 ⟨v3, v4, v5, v6, rfl, s1⟩
    refine k0 _ _ ?_
    clear k0
    refine seqI fun K1 k1 => ?_
    walk_at "rd"
    refine ⟨by decide, fun q0 n0 => ?_⟩
    have sA := same_new (o := .lst [.int 0]) n0
    have hq0 : (upd H1 q0 (.lst [.int 0])) q0 = some (.lst [.int 0]) := upd_same
    generalize upd H1 q0 (.lst [.int 0]) = H2 at sA hq0
    have s2 := s1.trans sA
    refine lcQ (K := K) (a := p) (xs := as.map V.ref) (fun i => [V.int ((rs.map fun r => r.2.1).getD i 0 : Nat)]) rfl (Sqs hp s2) ?_ ?_
    · intro D nD i y H3 hy h3
      obtain ⟨a, r, rfl, ha, hr2, hm, hra, hin⟩ := rowA hy
      obtain ⟨mm, h4, _⟩ := hra.same (s2.trans h3.1)
      have e : (rs.map fun r => r.2.1).getD i 0 = r.2.1 := by rw [List.getD_eq_getElem?_getD, List.getElem?_map, hr2]; rfl
      refine ⟨rfl, ?_⟩
      walk_at "rd"
      refine ⟨_, h4, _, rfl, ?_⟩
      exact h3.put nD (fun _ => Nat.le_refl _) (by have := R.n60; omega) (Same.refl _) (by rw [e])
    intro D H3 nD s3 hD
    rw [flat_one, show (as.map V.ref).length = n by rw [List.length_map, la, R.len], range_getD (by rw [List.length_map, R.len])] at hD
    have zz : 1 + n ≤ sizeLine := by
      have := R.n60
      exact Nat.le_trans (by omega : _ ≤ 100) (by decide)
    refine ⟨D, rfl, _, s3 _ _ hq0, _, hD, by rw [ni_len, List.length_map, R.len]; exact zz, fun qh nh => k1 _ _ ?_⟩
    clear k1
    have s4 := (s2.trans s3).trans (same_new (o := .lst (ni hol)) nh)
    have hh : (upd H3 qh (.lst (ni hol))) qh = some (.lst (ni hol)) := upd_same
    have eh : [V.int 0] ++ ni (rs.map fun r => r.2.1) = ni hol := by rw [R.eh]; rfl
    rw [eh]
    generalize upd H3 qh (.lst (ni hol)) = H4 at s4 hh
    clear hD s3 nD hq0 sA s2 n0 nh s1
    refine seqI fun K1 k1 => ?_
    walk_at "rd"
    refine ⟨by decide, fun q0 n0 => ?_⟩
    have sA := same_new (o := .lst [.int 0]) n0
    have hq0 : (upd H4 q0 (.lst [.int 0])) q0 = some (.lst [.int 0]) := upd_same
    generalize upd H4 q0 (.lst [.int 0]) = H5 at sA hq0
    have s5 := s4.trans sA
    refine lcQ (K := K) (a := p) (xs := as.map V.ref) (fun i => [V.int ((rs.map fun r => r.2.2.1).getD i 0 : Nat)]) rfl (Sqs hp s5) ?_ ?_
    · intro D nD i y H3 hy h3
      obtain ⟨a, r, rfl, ha, hr2, hm, hra, hin⟩ := rowA hy
      obtain ⟨mm, h4, _⟩ := hra.same (s5.trans h3.1)
      have e : (rs.map fun r => r.2.2.1).getD i 0 = r.2.2.1 := by rw [List.getD_eq_getElem?_getD, List.getElem?_map, hr2]; rfl
      refine ⟨rfl, ?_⟩
      walk_at "rd"
      refine ⟨_, h4, _, rfl, ?_⟩
      exact h3.put nD (fun _ => Nat.le_refl _) (by have := R.n60; omega) (Same.refl _) (by rw [e])
    intro D H6 nD s6 hD
    rw [flat_one, show (as.map V.ref).length = n by rw [List.length_map, la, R.len], range_getD (by rw [List.length_map, R.len])] at hD
    refine ⟨D, rfl, _, s6 _ _ hq0, _, hD, by rw [ni_len, List.length_map, R.len]; exact zz, fun qb nb => k1 _ _ ?_⟩
    clear k1
    have s7 := (s5.trans s6).trans (same_new (o := .lst (ni bes)) nb)
    have hh7 := same_new (o := .lst (ni bes)) nb _ _ (s6 _ _ (sA _ _ hh))
    have hb7 : (upd H6 qb (.lst (ni bes))) qb = some (.lst (ni bes)) := upd_same
    have eb : [V.int 0] ++ ni (rs.map fun r => r.2.2.1) = ni bes := by rw [R.eb]; rfl
    rw [eb]
    generalize upd H6 qb (.lst (ni bes)) = H7 at s7 hh7 hb7
    clear hD s6 nD hq0 sA s5 n0 nb s4 hh
    have lh : hol.length = n + 1 := by rw [R.eh, List.length_cons, List.length_map, R.len]
    have lb : bes.length = n + 1 := by rw [R.eb, List.length_cons, List.length_map, R.len]
    have vh : ∀ v ∈ hol, v ≤ n := fun v hv => by
      rw [R.eh] at hv
      rcases List.mem_cons.mp hv with rfl | hv
      · exact Nat.zero_le _
      · obtain ⟨r, hr, rfl⟩ := List.mem_map.mp hv
        exact (R.row r hr).2.2.1
    have h00 : hol.getD 0 0 = 0 := by rw [R.eh]; rfl
    obtain ⟨rk, hrk⟩ := R.rk
    refine seqI fun K0 k0 => ?_
    refine for_enumQ (K := K) (a := p) (xs := as.map V.ref) (fun Q h => ⟨_, rfl, h⟩) (Sqs hp s7) (fun i σ H' => ∃ v3 v4 : Option V, σ = [some (.ref p), some (.int 32), some (.int (n : Nat)), v3, v4, some (.ref qh), some (.ref qb)] ∧ Same H7 H') ⟨_, _, rfl, Same.refl H7⟩ ?_ ?_ ?_
    · rintro i σ H' ⟨_, _, _, s⟩ o e
      exact s _ _ e
    · rintro i y T' σ H' hy ⟨v3, v4, rfl, s1⟩ nT
      obtain ⟨a, r, rfl, ha, hr2, hm, hra, hin⟩ := rowA hy
      have sT := same_new (o := .tup [.int (i : Nat), .ref a]) nT
      refine ⟨T', _, rfl, .inl (.inl upd_same), rfl, _, _, rfl, _, _, rfl, rfl, ?_⟩
      have s8 := s1.trans sT
      have g := R.row r hm
      obtain ⟨mm, hra8, _⟩ := hra.same (s7.trans s8)
      refine seqI fun K1 k1 => ?_
      walk_at "rd"
      refine ⟨_, hra8, _, rfl, qh, qb, hol, bes, P.getD (i + 1) [], i + 1, n, r.2.2.2, rfl, s8 _ _ hh7, s8 _ _ hb7, R.n60, lh, lb, by omega, by omega, ⟨R.nd _, fun t => R.mem (i + 1) t (by omega)⟩, R.ch i r hr2, fun H1 s9 => ⟨_, rfl, ?_⟩⟩
      rw [if_neg (by decide)]
      refine k1 _ _ ?_
      clear k1
      have s10 := s8.trans s9
      walk_at "rd"
      refine ⟨qh, hol, n, i + 1, rk, rfl, s10 _ _ hh7, lh, vh, h00, hrk, by omega, by omega, R.n60, _, rfl, ?_⟩
      rw [if_neg (by decide)]
      refine ⟨_, s9 _ _ hra8, _, rfl, ?_⟩
      have b0 := R.b0 r hm
      walk_at "rd"
      refine ite_i (fun g0 => ⟨_, s9 _ _ hra8, _, rfl, rfl, ?_⟩) fun _ => s10
      rw [if_pos (by rw [b0 (by omega)]; rfl)]
      exact s10
    rintro σ H' ⟨v3, v4, rfl, s1⟩
    refine k0 _ _ ?_
    walk_at "rd"
    exact q H' (s7.trans s1)
end
section
variable {P : Program} {w : World} {K : PySem.W.Frag} {mg : Str → Option Value} {base : Heap}
theorem ok_Tree_M_of {f0 p0 : Addr} {fd : FuncData} (F : FunD K "of" "Tree.of" (defArgs s_Tree_M_of) (defBody s_Tree_M_of) (defScope s_Tree_M_of) [] [] f0 fd) (M : CSta K (He.ga K "Tree") (.type "type") "of" p0 f0) (R : ClX.CRead K (He.ga K "Tree") (.type "type")) (T : Tx P K mg) (C_check_rows : Cal P w K mg base CX0 4 "check_rows" ["rows", "most"] spCheck) (C_Tree_MU_initU : CalI P w K mg base (L2.CX P w) 3 (He.ga K "Tree") ["self", "rows"] (spTree K))  : CalS P w K mg base (L2.CX P w) 5 (He.ga K "Tree") "of" ["rows"] (spOf K) := by
  refine ⟨p0, f0, fd, M, R, F.bindsN bn_Tree_M_of, okX F sc_Tree_M_of (fun vs H Q E h => ?_) (fun f cdv A outer s H vs Q E hr h => ?_)⟩
  · first | (obtain ⟨rfl, _⟩ := h; rfl) | (obtain ⟨_, rfl, _⟩ := h; rfl) | (obtain ⟨_, _, rfl, _⟩ := h; rfl) | (obtain ⟨_, _, _, rfl, _⟩ := h; rfl) | (obtain ⟨_, _, _, _, rfl, _⟩ := h; rfl) | (obtain ⟨_, _, _, _, _, rfl, _⟩ := h; rfl) | (obtain ⟨_, _, _, _, _, _, rfl, _⟩ := h; rfl) | (obtain ⟨_, _, _, _, _, _, _, rfl, _⟩ := h; rfl) | (obtain ⟨_, _, _, _, _, _, _, _, rfl, _⟩ := h; rfl) | (obtain ⟨_, _, _, _, _, _, _, _, _, rfl, _⟩ := h; rfl) | (obtain ⟨_, _, _, _, _, _, _, _, _, _, rfl, _⟩ := h; rfl) | (obtain ⟨_, _, _, _, _, _, _, _, _, _, _, rfl, _⟩ := h; rfl) | (obtain ⟨_, _, _, _, _, _, _, _, _, _, _, _, rfl, _⟩ := h; rfl)
  · skip
    refine ⟨_, (pss_cons (ps_set (i := 1) sc_Tree_M_of.nd rfl (Or.inl rfl) (Fx.pe_cal C_check_rows (hr.mono (by decide)) pass0 (Fx.pa_c (pv 0) (Fx.pa_c (Fx.pe_cst T.c_MOST_MARKS) pa_nil))))
        (pss_cons (ps_if (PW.pt (pw_or (pt_cmpR op_notNon (pv 1) pe_non (nomark _)) (pw_or1 (pt_not (pt_chain op_le op_le pe_int (Fx.pe_cB Fx.len_Q T.b_len (by decide +kernel) (Fx.pa_c (pv 0) pa_nil)) (Fx.pe_cst T.c_MOST_THINGS)))))) (pss_one (Fx.ps_raiseFx rfl T.x_BadTree T.g_BadTree T.b_super hr (takes_of rfl rfl rfl rfl) (Fx.pa_c (pe_ifExp (pt_cmpR op_notNon (pv 1) pe_non (nomark _)) (pv 1) pe_int) pa_nil))) pss_nil)
        (pss_cons (ps_set (i := 2) sc_Tree_M_of.nd rfl (Or.inl rfl) (Fx.pe_mk C_Tree_MU_initU (hr.mono (by decide)) T.g_Tree (passes_call (takes_of rfl rfl rfl rfl) (fun _ _ _ _ z => z)) (Fx.pa_c (pe_lc (own := [("row", 3)]) rfl sc_Tree_M_of.nd (Fx.pi_Q (pv 0)) (blkOk_by (N := N_Tree_M_of) (sc := defScope s_Tree_M_of) (by decide +kernel)) (fun _ _ _ _ _ => (pg_name (i := 3) sc_Tree_M_of.nd rfl (Or.inl rfl))) (fun _ _ _ _ _ => pts_nil) (fun _ _ _ _ _ => (pe_tup (Fx.pa_c (pe_ix Fx.ix_T (pv 3) pe_int (fun _ _ => rfl)) (Fx.pa_c (pe_ix Fx.ix_T (pv 3) pe_int (fun _ _ => rfl)) pa_nil))))) pa_nil)))
        (pss_cons (ps_fld (pv 2) (pe_op op_cat (pe_lst (Fx.pa_c pe_int pa_nil)) (pe_lc (own := [("row", 3)]) rfl sc_Tree_M_of.nd (Fx.pi_Q (pv 0)) (blkOk_by (N := N_Tree_M_of) (sc := defScope s_Tree_M_of) (by decide +kernel)) (fun _ _ _ _ _ => (pg_name (i := 3) sc_Tree_M_of.nd rfl (Or.inl rfl))) (fun _ _ _ _ _ => pts_nil) (fun _ _ _ _ _ => (pe_ix Fx.ix_T (pv 3) pe_int (fun _ _ => rfl))))) rfl)
        (pss_cons (ps_fld (pv 2) (pe_op op_cat (pe_lst (Fx.pa_c pe_int pa_nil)) (pe_lc (own := [("row", 3)]) rfl sc_Tree_M_of.nd (Fx.pi_Q (pv 0)) (blkOk_by (N := N_Tree_M_of) (sc := defScope s_Tree_M_of) (by decide +kernel)) (fun _ _ _ _ _ => (pg_name (i := 3) sc_Tree_M_of.nd rfl (Or.inl rfl))) (fun _ _ _ _ _ => pts_nil) (fun _ _ _ _ _ => (pe_ix Fx.ix_T (pv 3) pe_int (fun _ _ => rfl))))) rfl)
        (pss_one (ps_ret (pv 2)))))))), ?_⟩
    obtain ⟨p, as, rs, hol, bes, P, n, rfl, hp, la, hr, R, q⟩ := h
    have n60 := R.n60
    have n1 := R.n1
    have Sqs : ∀ {H1 H2 : Hp}, Sq H1 p (as.map V.ref) → Same H1 H2 → Sq H2 p (as.map V.ref) := fun h s => h.elim (fun h => .inl (s _ _ h)) fun h => .inr (s _ _ h)
    have rowA : ∀ {j : Nat} {y : V}, (as.map V.ref)[j]? = some y → ∃ a r, y = .ref a ∧ as[j]? = some a ∧ rs[j]? = some r ∧ r ∈ rs ∧ RowAt H a r ∧ j < n := fun {j y} hy => by
      have hj := (List.getElem?_eq_some_iff.mp hy).1
      rw [List.length_map] at hj
      rw [List.getElem?_map, List.getElem?_eq_getElem hj] at hy
      cases hy
      have hj2 : j < rs.length := by omega
      exact ⟨as[j], rs[j], rfl, List.getElem?_eq_getElem hj, List.getElem?_eq_getElem hj2, List.getElem_mem hj2, hr j _ _ (List.getElem?_eq_getElem hj) (List.getElem?_eq_getElem hj2), by rw [← R.len]; exact hj2⟩
    refine seqI fun K1 k1 => ?_
    walk_at "rd"
    refine ⟨p, as, rs, hol, bes, P, n, rfl, hp, la, hr, R, fun H1 s1 => k1 _ _ ?_⟩
    clear k1
    refine seqI fun K1 k1 => ?_
    walk_at "rd"
    refine ⟨_, Sqs hp s1, ?_⟩
    rw [show (((as.map V.ref).length : Nat) : Int) = (n : Nat) by rw [List.length_map, la, R.len], if_pos (by omega), if_pos (by omega)]
    refine k1 _ _ ?_
    clear k1
    refine seqI fun K1 k1 => ?_
    walk_at "rd"
    have Sq1 := Sqs hp s1
    refine lcQI (K := K) (a := p) (xs := as.map V.ref) (fun D i H' => ∃ bs : List Addr, bs.length = i ∧ H' D = some (.lst (bs.map V.ref)) ∧ (∀ (j : Nat) (b : Addr) (r : TRow), bs[j]? = some b → rs[j]? = some r → PairAt H' b (r.2.1, r.1)) ∧ Same H1 H') rfl Sq1 (fun D nD => ⟨[], rfl, upd_same, fun j b r e => (by cases e), same_new nD⟩) (fun D i H' _ ⟨_, _, _, _, s⟩ => s) ?_ ?_
    · rintro D nD i y H' hy ⟨bs, lb, hD, hbs, s2⟩
      obtain ⟨a, r, rfl, ha, hr2, hm, hra, hin⟩ := rowA hy
      obtain ⟨mm, g1, g2⟩ := hra.same (s1.trans s2)
      refine ⟨rfl, ?_⟩
      walk_at "rd"
      refine ⟨_, g1, _, rfl, _, g1, _, rfl, by decide, fun pq npq => ?_⟩
      have s3 := same_new (o := .tup [.int (r.2.1 : Nat), .ref mm]) npq
      have hq3 : (upd H' pq (.tup [.int (r.2.1 : Nat), .ref mm])) pq = some (.tup [.int (r.2.1 : Nat), .ref mm]) := upd_same
      have g3 := s3 _ _ g2
      generalize upd H' pq (.tup [.int (r.2.1 : Nat), .ref mm]) = H3 at s3 hq3 g3
      have hD3 := s3 _ _ hD
      have keep : ∀ {a : Addr} {xs : List V}, H3 a = some (.tup xs) → (upd H3 D (.lst (bs.map V.ref ++ [.ref pq]))) a = some (.tup xs) := fun h => by
        rw [upd_ne (ne_of h hD3 (by intro z; cases z))]
        exact h
      refine ⟨_, hD3, by rw [List.length_map, lb]; exact Nat.lt_of_lt_of_le (by omega : _ < 100) (by decide), bs ++ [pq], by rw [List.length_append, lb]; rfl, by rw [List.map_append]; rfl, fun j b r' e1 e2 => ?_, Same.put (s2.trans s3) nD⟩
      by_cases hj : j < bs.length
      · rw [List.getElem?_append_left hj] at e1
        obtain ⟨m2, k1, k2⟩ := hbs j b r' e1 e2
        exact ⟨m2, keep (s3 _ _ k1), keep (s3 _ _ k2)⟩
      · have hj2 := (List.getElem?_eq_some_iff.mp e1).1
        rw [List.length_append, List.length_singleton] at hj2
        have ej : j = bs.length := by omega
        rw [ej, List.getElem?_append_right (Nat.le_refl _), Nat.sub_self] at e1
        cases e1
        rw [ej, lb, hr2] at e2
        cases e2
        exact ⟨mm, keep hq3, keep g3⟩
    rintro D H2 nD ⟨bs, lb, hD, hbs, s2⟩ x dx nx ndx ne
    rw [List.length_map, la] at lb
    have s3 := same_new (o := .own x) ndx
    have nx3 : (upd H2 dx (.own x)) x = none := by rw [upd_ne (Ne.symm ne)]; exact nx
    have s4 := s3.trans (same_new (o := .ins (He.ga K "Tree") dx []) nx3)
    have hx4 : (upd (upd H2 dx (.own x)) x (.ins (He.ga K "Tree") dx [])) x = some (.ins (He.ga K "Tree") dx []) := upd_same
    have f4 : ∀ a, (upd (upd H2 dx (.own x)) x (.ins (He.ga K "Tree") dx [])) a = none → H2 a = none := fun a h => s4.free h
    show spTree K [.ref x, .ref D] (upd (upd H2 dx (.own x)) x (.ins (He.ga K "Tree") dx [])) _ _
    generalize upd (upd H2 dx (.own x)) x (.ins (He.ga K "Tree") dx []) = H4 at s4 hx4 f4
    refine ⟨x, D, dx, bs, rs.map fun r => (r.2.1, r.1), n, rfl, hx4, .inl (s4 _ _ hD), by rw [List.length_map, lb], fun j a r e1 e2 => ?_, R.pairs, fun A t H5 kx fr L ok eh em F => ⟨rfl, k1 _ _ ?_⟩⟩
    · rw [List.getElem?_map] at e2
      have hj := (List.getElem?_eq_some_iff.mp e1).1
      rw [List.getElem?_eq_getElem (by omega)] at e2
      cases e2
      obtain ⟨m2, g1, g2⟩ := hbs j a _ e1 (List.getElem?_eq_getElem (by omega))
      exact ⟨m2, s4 _ _ g1, s4 _ _ g2⟩
    clear k1
    have s5 : Same H2 H5 := fun a o h => kx a o (fun e => by rw [e, nx] at h; cases h) (s4 _ _ h)
    have fr5 : ∀ a ∈ x :: A.own, H2 a = none := fun a ha => by
      rcases List.mem_cons.mp ha with rfl | ha
      · exact nx
      · exact f4 a (fr a ha)
    have s15 := s2.trans s5
    rw [R.mks] at em
    rw [List.map_map] at eh
    have eh : t.hol = hol := by rw [R.eh, eh]; rfl
    clear fr kx s4 hx4 f4 hbs hD F s5
    obtain ⟨dx5, hx5⟩ := L.ins
    have fr1 : ∀ a ∈ x :: A.own, H1 a = none := fun a ha => s2.free (fr5 a ha)
    clear fr5 s2 nD nx3 s3 nx ndx
    have Sq5 := Sqs Sq1 s15
    have R15 : ∀ {a : Addr} {r : TRow}, RowAt H a r → RowAt H5 a r := fun h => (h.same s1).same s15
    have lB : (rs.map fun r => r.2.2.1).length = n := by rw [List.length_map, R.len]
    have lF : (rs.map fun r => r.2.2.2).length = n := by rw [List.length_map, R.len]
    have zz : 1 + n ≤ sizeLine := Nat.le_trans (by omega : _ ≤ 100) (by decide)
    refine seqI fun K1 k1 => ?_
    walk_at "rd"
    refine ⟨by decide, fun q0 n0 => ?_⟩
    have sA := same_new (o := .lst [.int 0]) n0
    have hq0 : (upd H5 q0 (.lst [.int 0])) q0 = some (.lst [.int 0]) := upd_same
    generalize upd H5 q0 (.lst [.int 0]) = H6 at sA hq0
    refine lcQ (K := K) (a := p) (xs := as.map V.ref) (fun i => [V.int ((rs.map fun r => r.2.2.1).getD i 0 : Nat)]) rfl (Sqs Sq5 sA) ?_ ?_
    · intro D nD i y H3 hy h3
      obtain ⟨a, r, rfl, ha, hr2, hm, hra, hin⟩ := rowA hy
      obtain ⟨mm, h4, _⟩ := (R15 hra).same (sA.trans h3.1)
      have e : (rs.map fun r => r.2.2.1).getD i 0 = r.2.2.1 := by rw [List.getD_eq_getElem?_getD, List.getElem?_map, hr2]; rfl
      refine ⟨rfl, ?_⟩
      walk_at "rd"
      refine ⟨_, h4, _, rfl, ?_⟩
      exact h3.put nD (fun _ => Nat.le_refl _) (by omega) (Same.refl _) (by rw [e])
    intro D7 H7 nD7 s67 hD7
    rw [flat_one, show (as.map V.ref).length = n by rw [List.length_map, la, R.len], range_getD lB] at hD7
    refine ⟨D7, rfl, _, s67 _ _ hq0, _, hD7, by rw [ni_len, lB]; exact zz, fun qb nqb => ?_⟩
    rw [show [V.int 0] ++ ni (rs.map fun r => r.2.2.1) = ni bes by rw [R.eb]; rfl]
    have s8 := (sA.trans s67).trans (same_new (o := .lst (ni bes)) nqb)
    have hb8 : (upd H7 qb (.lst (ni bes))) qb = some (.lst (ni bes)) := upd_same
    have nqb5 := (sA.trans s67).free nqb
    generalize upd H7 qb (.lst (ni bes)) = H8 at s8 hb8
    have hx8 := s8 _ _ hx5
    have L8 := (L.same s8).fBes hx8 hb8 (L.nown nqb5)
    refine ⟨_, _, _, hx8, T.cl_Tree, T.n_Tree_besides, (by show 5 < 1000; decide), k1 _ _ ?_⟩
    clear k1
    show tSeq _ _ _ _ (upd H8 x (.ins (He.ga K "Tree") dx5 (trF { A with bes := qb })))
    have s19 : ∀ a o, a ≠ x → H1 a = some o → (upd H8 x (.ins (He.ga K "Tree") dx5 (trF { A with bes := qb }))) a = some o := fun a o ne h => by
      rw [upd_ne ne]
      exact s8 _ _ (s15 _ _ h)
    have hx9 : (upd H8 x (.ins (He.ga K "Tree") dx5 (trF { A with bes := qb }))) x = some (.ins (He.ga K "Tree") dx5 (trF { A with bes := qb })) := upd_same
    generalize upd H8 x (.ins (He.ga K "Tree") dx5 (trF { A with bes := qb })) = H9 at s19 hx9 L8
    have nx1 := fr1 x List.mem_cons_self
    have S19 : Same H1 H9 := fun a o h => s19 a o (fun e => by rw [e, nx1] at h; cases h) h
    clear s19 hb8 hx8 s8 hD7 s67 hq0 sA L hx5 Sq5 R15
    have Sq9 := Sqs Sq1 S19
    have nqb1 := s15.free nqb5
    clear s15 nqb5 nqb
    refine seqI fun K1 k1 => ?_
    walk_at "rd"
    refine ⟨by decide, fun q0 n0 => ?_⟩
    have sA := same_new (o := .lst [.int 0]) n0
    have hq0 : (upd H9 q0 (.lst [.int 0])) q0 = some (.lst [.int 0]) := upd_same
    generalize upd H9 q0 (.lst [.int 0]) = H10 at sA hq0
    refine lcQ (K := K) (a := p) (xs := as.map V.ref) (fun i => [V.int ((rs.map fun r => r.2.2.2).getD i 0 : Nat)]) rfl (Sqs Sq9 sA) ?_ ?_
    · intro D nD i y H3 hy h3
      obtain ⟨a, r, rfl, ha, hr2, hm, hra, hin⟩ := rowA hy
      obtain ⟨mm, h4, _⟩ := (((hra.same s1).same S19).same sA).same h3.1
      have e : (rs.map fun r => r.2.2.2).getD i 0 = r.2.2.2 := by rw [List.getD_eq_getElem?_getD, List.getElem?_map, hr2]; rfl
      refine ⟨rfl, ?_⟩
      walk_at "rd"
      refine ⟨_, h4, _, rfl, ?_⟩
      exact h3.put nD (fun _ => Nat.le_refl _) (by omega) (Same.refl _) (by rw [e])
    intro D11 H11 nD11 s11 hD11
    rw [flat_one, show (as.map V.ref).length = n by rw [List.length_map, la, R.len], range_getD lF] at hD11
    refine ⟨D11, rfl, _, s11 _ _ hq0, _, hD11, by rw [ni_len, lF]; exact zz, fun qf nqf => ?_⟩
    rw [show [V.int 0] ++ ni (rs.map fun r => r.2.2.2) = ni (0 :: rs.map fun r => r.2.2.2) from rfl]
    have s12 := (sA.trans s11).trans (same_new (o := .lst (ni (0 :: rs.map fun r => r.2.2.2))) nqf)
    have hf12 : (upd H11 qf (.lst (ni (0 :: rs.map fun r => r.2.2.2)))) qf = some (.lst (ni (0 :: rs.map fun r => r.2.2.2))) := upd_same
    have nqf9 := (sA.trans s11).free nqf
    generalize upd H11 qf (.lst (ni (0 :: rs.map fun r => r.2.2.2))) = H12 at s12 hf12
    have hx12 := s12 _ _ hx9
    have L12 := (L8.same s12).fFir hx12 hf12 (L8.nown nqf9)
    refine ⟨_, _, _, hx12, T.cl_Tree, T.n_Tree_firsts, (by show 5 < 1000; decide), k1 _ _ ?_⟩
    clear k1
    walk_at "rd"
    have nqf1 := S19.free nqf9
    rw [eh, em] at L12
    refine q x { hol := A.hol, mr := A.mr, bes := qb, fir := qf, num := A.num, ds := A.ds } _ ?_ ?_ L12
    · intro a o h
      have h1 := s1 _ _ h
      show (upd H12 x _) a = _
      rw [upd_ne (fun e => by rw [e, nx1] at h1; cases h1)]
      exact s12 _ _ (S19 _ _ h1)
    · intro a ha
      refine s1.free ?_
      simp only [TrO.own, List.mem_cons] at ha fr1
      rcases ha with h | h | h | h | h | h | h
      · exact fr1 a (by simp [h])
      · exact fr1 a (by simp [h])
      · exact fr1 a (by simp [h])
      · rw [h]; exact nqb1
      · rw [h]; exact nqf1
      · exact fr1 a (by simp [h])
      · exact fr1 a (by simp [h])
end
section
variable {P : Program} {w : World} {K : PySem.W.Frag} {mg : Str → Option Value} {base : Heap}
theorem ok_Tree_M_check_thing {f0 : Addr} {fd : FuncData} (F : FunD K "check_thing" "Tree.check_thing" (defArgs s_Tree_M_check_thing) (defBody s_Tree_M_check_thing) (defScope s_Tree_M_check_thing) [] [] f0 fd) (M : Meth K (He.ga K "Tree") "check_thing" f0) (T : Tx P K mg) (C_is_integer : Cal P w K mg base CX0 1 "is_integer" ["thing", "low", "high"] spIsI)  : CalM P w K mg base (L2.CX P w) 3 (He.ga K "Tree") "check_thing" ["self", "thing"] (spChk K) := by
  refine ⟨f0, fd, M, F.bindsN bn_Tree_M_check_thing, okX F sc_Tree_M_check_thing (fun vs H Q E h => ?_) (fun f cdv A outer s H vs Q E hr h => ?_)⟩
  · first | (obtain ⟨rfl, _⟩ := h; rfl) | (obtain ⟨_, rfl, _⟩ := h; rfl) | (obtain ⟨_, _, rfl, _⟩ := h; rfl) | (obtain ⟨_, _, _, rfl, _⟩ := h; rfl) | (obtain ⟨_, _, _, _, rfl, _⟩ := h; rfl) | (obtain ⟨_, _, _, _, _, rfl, _⟩ := h; rfl) | (obtain ⟨_, _, _, _, _, _, rfl, _⟩ := h; rfl) | (obtain ⟨_, _, _, _, _, _, _, rfl, _⟩ := h; rfl) | (obtain ⟨_, _, _, _, _, _, _, _, rfl, _⟩ := h; rfl) | (obtain ⟨_, _, _, _, _, _, _, _, _, rfl, _⟩ := h; rfl) | (obtain ⟨_, _, _, _, _, _, _, _, _, _, rfl, _⟩ := h; rfl) | (obtain ⟨_, _, _, _, _, _, _, _, _, _, _, rfl, _⟩ := h; rfl) | (obtain ⟨_, _, _, _, _, _, _, _, _, _, _, _, rfl, _⟩ := h; rfl)
  · skip
    refine ⟨_, (pss_one (ps_if (pt_not (pt_val (Fx.pe_cal C_is_integer (hr.mono (by decide)) pass0 (Fx.pa_c (pv 1) (Fx.pa_c pe_int (Fx.pa_c (pe_op op_sub (Fx.pe_cB Fx.len_L T.b_len (by decide +kernel) (Fx.pa_c (Fx.pe_fldK (K := K) rfl (pv 0) rfl) pa_nil)) pe_int) pa_nil)))))) (pss_one (Fx.ps_raiseFx rfl T.x_NoThing T.g_NoThing T.b_super hr (takes_of rfl rfl rfl rfl) (Fx.pa_c (pv 1) pa_nil))) pss_nil)), ?_⟩
    obtain ⟨x, A, t, v, rfl, L, ok, h⟩ := h
    obtain ⟨dx, hx⟩ := L.ins
    walk_at "rd"
    refine ⟨_, _, _, hx, T.cl_Tree, T.n_Tree_holders, _, rfl, _, rfl, _, L.hol, ?_⟩
    rw [ok.n_]
    rcases h with ⟨i, rfl, hi, q⟩ | ⟨h, q⟩
    · refine ⟨_, _, _, rfl, .inl ⟨_, rfl, by omega, by omega, true, rfl, ?_⟩⟩
      walk_at "rd"
      exact q H (Same.refl H)
    · refine ⟨_, _, _, rfl, .inr ⟨h, false, rfl, ?_⟩⟩
      walk_at "rd"
      exact fun d nd => q d _ (same_new nd) nd upd_same
end
section
variable {P : Program} {w : World} {K : PySem.W.Frag} {mg : Str → Option Value} {base : Heap}
theorem ok_Tree_M_holder_of {f0 : Addr} {fd : FuncData} (F : FunD K "holder_of" "Tree.holder_of" (defArgs s_Tree_M_holder_of) (defBody s_Tree_M_holder_of) (defScope s_Tree_M_holder_of) [] [] f0 fd) (M : Meth K (He.ga K "Tree") "holder_of" f0) (T : Tx P K mg) (C_Tree_M_check_thing : CalM P w K mg base (L2.CX P w) 3 (He.ga K "Tree") "check_thing" ["self", "thing"] (spChk K))  : CalM P w K mg base (L2.CX P w) 4 (He.ga K "Tree") "holder_of" ["self", "thing"] (spNum K (fun t i => t.hol.getD i 0) fun _ => True) := by
  refine ⟨f0, fd, M, F.bindsN bn_Tree_M_holder_of, okX F sc_Tree_M_holder_of (fun vs H Q E h => ?_) (fun f cdv A outer s H vs Q E hr h => ?_)⟩
  · first | (obtain ⟨rfl, _⟩ := h; rfl) | (obtain ⟨_, rfl, _⟩ := h; rfl) | (obtain ⟨_, _, rfl, _⟩ := h; rfl) | (obtain ⟨_, _, _, rfl, _⟩ := h; rfl) | (obtain ⟨_, _, _, _, rfl, _⟩ := h; rfl) | (obtain ⟨_, _, _, _, _, rfl, _⟩ := h; rfl) | (obtain ⟨_, _, _, _, _, _, rfl, _⟩ := h; rfl) | (obtain ⟨_, _, _, _, _, _, _, rfl, _⟩ := h; rfl) | (obtain ⟨_, _, _, _, _, _, _, _, rfl, _⟩ := h; rfl) | (obtain ⟨_, _, _, _, _, _, _, _, _, rfl, _⟩ := h; rfl) | (obtain ⟨_, _, _, _, _, _, _, _, _, _, rfl, _⟩ := h; rfl) | (obtain ⟨_, _, _, _, _, _, _, _, _, _, _, rfl, _⟩ := h; rfl) | (obtain ⟨_, _, _, _, _, _, _, _, _, _, _, _, rfl, _⟩ := h; rfl)
  · skip
    obtain ⟨f_Tree_M_check_thing, fd_Tree_M_check_thing, m_Tree_M_check_thing, b_Tree_M_check_thing, G_Tree_M_check_thing⟩ := C_Tree_M_check_thing.ex
    refine ⟨_, (pss_cons (ps_expr (pe_meth (pv 0) T.cl_Tree m_Tree_M_check_thing G_Tree_M_check_thing (hr.mono (by decide)) b_Tree_M_check_thing .nil (passes_call (takes_of rfl rfl rfl rfl) (fun _ _ _ _ z => z)) (Fx.pa_c (pv 1) pa_nil)))
        (pss_one (ps_ret (pe_ix Fx.ix_L (Fx.pe_fldK (K := K) rfl (pv 0) rfl) (pv 1) (fun _ _ => rfl))))), ?_⟩
    obtain ⟨x, A, t, v, rfl, L, ok, _, h⟩ := h
    obtain ⟨dx, hx⟩ := L.ins
    refine seqI fun K1 k1 => ?_
    walk_at "rd"
    refine ⟨_, _, hx, rfl, x, A, t, v, rfl, L, ok, ?_⟩
    rcases h with ⟨i, rfl, hi, q⟩ | h
    · refine .inl ⟨i, rfl, hi, fun H1 s1 => k1 _ _ ?_⟩
      clear k1
      walk_at "rd"
      exact ⟨_, _, _, s1 _ _ hx, T.cl_Tree, T.n_Tree_holders, _, rfl, _, rfl, _, (L.same s1).hol, _, ni_at (by rw [ok.lh]; omega), q H1 s1⟩
    · exact .inr h
end
section
variable {P : Program} {w : World} {K : PySem.W.Frag} {mg : Str → Option Value} {base : Heap}
theorem ok_Tree_M_first_of {f0 : Addr} {fd : FuncData} (F : FunD K "first_of" "Tree.first_of" (defArgs s_Tree_M_first_of) (defBody s_Tree_M_first_of) (defScope s_Tree_M_first_of) [] [] f0 fd) (M : Meth K (He.ga K "Tree") "first_of" f0) (T : Tx P K mg) (C_Tree_M_check_thing : CalM P w K mg base (L2.CX P w) 3 (He.ga K "Tree") "check_thing" ["self", "thing"] (spChk K))  : CalM P w K mg base (L2.CX P w) 4 (He.ga K "Tree") "first_of" ["self", "thing"] (spNum K (fun t i => t.fir.getD i 0) fun _ => True) := by
  refine ⟨f0, fd, M, F.bindsN bn_Tree_M_first_of, okX F sc_Tree_M_first_of (fun vs H Q E h => ?_) (fun f cdv A outer s H vs Q E hr h => ?_)⟩
  · first | (obtain ⟨rfl, _⟩ := h; rfl) | (obtain ⟨_, rfl, _⟩ := h; rfl) | (obtain ⟨_, _, rfl, _⟩ := h; rfl) | (obtain ⟨_, _, _, rfl, _⟩ := h; rfl) | (obtain ⟨_, _, _, _, rfl, _⟩ := h; rfl) | (obtain ⟨_, _, _, _, _, rfl, _⟩ := h; rfl) | (obtain ⟨_, _, _, _, _, _, rfl, _⟩ := h; rfl) | (obtain ⟨_, _, _, _, _, _, _, rfl, _⟩ := h; rfl) | (obtain ⟨_, _, _, _, _, _, _, _, rfl, _⟩ := h; rfl) | (obtain ⟨_, _, _, _, _, _, _, _, _, rfl, _⟩ := h; rfl) | (obtain ⟨_, _, _, _, _, _, _, _, _, _, rfl, _⟩ := h; rfl) | (obtain ⟨_, _, _, _, _, _, _, _, _, _, _, rfl, _⟩ := h; rfl) | (obtain ⟨_, _, _, _, _, _, _, _, _, _, _, _, rfl, _⟩ := h; rfl)
  · skip
    obtain ⟨f_Tree_M_check_thing, fd_Tree_M_check_thing, m_Tree_M_check_thing, b_Tree_M_check_thing, G_Tree_M_check_thing⟩ := C_Tree_M_check_thing.ex
    refine ⟨_, (pss_cons (ps_expr (pe_meth (pv 0) T.cl_Tree m_Tree_M_check_thing G_Tree_M_check_thing (hr.mono (by decide)) b_Tree_M_check_thing .nil (passes_call (takes_of rfl rfl rfl rfl) (fun _ _ _ _ z => z)) (Fx.pa_c (pv 1) pa_nil)))
        (pss_one (ps_ret (pe_ix Fx.ix_L (Fx.pe_fldK (K := K) rfl (pv 0) rfl) (pv 1) (fun _ _ => rfl))))), ?_⟩
    obtain ⟨x, A, t, v, rfl, L, ok, _, h⟩ := h
    obtain ⟨dx, hx⟩ := L.ins
    refine seqI fun K1 k1 => ?_
    walk_at "rd"
    refine ⟨_, _, hx, rfl, x, A, t, v, rfl, L, ok, ?_⟩
    rcases h with ⟨i, rfl, hi, q⟩ | h
    · refine .inl ⟨i, rfl, hi, fun H1 s1 => k1 _ _ ?_⟩
      clear k1
      walk_at "rd"
      exact ⟨_, _, _, s1 _ _ hx, T.cl_Tree, T.n_Tree_firsts, _, rfl, _, rfl, _, (L.same s1).fir, _, ni_at (by rw [ok.lf]; omega), q H1 s1⟩
    · exact .inr h
end
section
variable {P : Program} {w : World} {K : PySem.W.Frag} {mg : Str → Option Value} {base : Heap}
theorem ok_Tree_M_beside_of {f0 : Addr} {fd : FuncData} (F : FunD K "beside_of" "Tree.beside_of" (defArgs s_Tree_M_beside_of) (defBody s_Tree_M_beside_of) (defScope s_Tree_M_beside_of) [] [] f0 fd) (M : Meth K (He.ga K "Tree") "beside_of" f0) (T : Tx P K mg) (C_Tree_M_check_thing : CalM P w K mg base (L2.CX P w) 3 (He.ga K "Tree") "check_thing" ["self", "thing"] (spChk K))  : CalM P w K mg base (L2.CX P w) 4 (He.ga K "Tree") "beside_of" ["self", "thing"] (spNum K (fun t i => t.bes.getD i 0) fun _ => True) := by
  refine ⟨f0, fd, M, F.bindsN bn_Tree_M_beside_of, okX F sc_Tree_M_beside_of (fun vs H Q E h => ?_) (fun f cdv A outer s H vs Q E hr h => ?_)⟩
  · first | (obtain ⟨rfl, _⟩ := h; rfl) | (obtain ⟨_, rfl, _⟩ := h; rfl) | (obtain ⟨_, _, rfl, _⟩ := h; rfl) | (obtain ⟨_, _, _, rfl, _⟩ := h; rfl) | (obtain ⟨_, _, _, _, rfl, _⟩ := h; rfl) | (obtain ⟨_, _, _, _, _, rfl, _⟩ := h; rfl) | (obtain ⟨_, _, _, _, _, _, rfl, _⟩ := h; rfl) | (obtain ⟨_, _, _, _, _, _, _, rfl, _⟩ := h; rfl) | (obtain ⟨_, _, _, _, _, _, _, _, rfl, _⟩ := h; rfl) | (obtain ⟨_, _, _, _, _, _, _, _, _, rfl, _⟩ := h; rfl) | (obtain ⟨_, _, _, _, _, _, _, _, _, _, rfl, _⟩ := h; rfl) | (obtain ⟨_, _, _, _, _, _, _, _, _, _, _, rfl, _⟩ := h; rfl) | (obtain ⟨_, _, _, _, _, _, _, _, _, _, _, _, rfl, _⟩ := h; rfl)
  · skip
    obtain ⟨f_Tree_M_check_thing, fd_Tree_M_check_thing, m_Tree_M_check_thing, b_Tree_M_check_thing, G_Tree_M_check_thing⟩ := C_Tree_M_check_thing.ex
    refine ⟨_, (pss_cons (ps_expr (pe_meth (pv 0) T.cl_Tree m_Tree_M_check_thing G_Tree_M_check_thing (hr.mono (by decide)) b_Tree_M_check_thing .nil (passes_call (takes_of rfl rfl rfl rfl) (fun _ _ _ _ z => z)) (Fx.pa_c (pv 1) pa_nil)))
        (pss_one (ps_ret (pe_ix Fx.ix_L (Fx.pe_fldK (K := K) rfl (pv 0) rfl) (pv 1) (fun _ _ => rfl))))), ?_⟩
    obtain ⟨x, A, t, v, rfl, L, ok, _, h⟩ := h
    obtain ⟨dx, hx⟩ := L.ins
    refine seqI fun K1 k1 => ?_
    walk_at "rd"
    refine ⟨_, _, hx, rfl, x, A, t, v, rfl, L, ok, ?_⟩
    rcases h with ⟨i, rfl, hi, q⟩ | h
    · refine .inl ⟨i, rfl, hi, fun H1 s1 => k1 _ _ ?_⟩
      clear k1
      walk_at "rd"
      exact ⟨_, _, _, s1 _ _ hx, T.cl_Tree, T.n_Tree_besides, _, rfl, _, rfl, _, (L.same s1).bes, _, ni_at (by rw [ok.lb]; omega), q H1 s1⟩
    · exact .inr h
end
section
variable {P : Program} {w : World} {K : PySem.W.Frag} {mg : Str → Option Value} {base : Heap}
theorem ok_Tree_M_place_of {f0 : Addr} {fd : FuncData} (F : FunD K "place_of" "Tree.place_of" (defArgs s_Tree_M_place_of) (defBody s_Tree_M_place_of) (defScope s_Tree_M_place_of) [] [] f0 fd) (M : Meth K (He.ga K "Tree") "place_of" f0) (T : Tx P K mg) (C_Tree_M_check_thing : CalM P w K mg base (L2.CX P w) 3 (He.ga K "Tree") "check_thing" ["self", "thing"] (spChk K))  : CalM P w K mg base (L2.CX P w) 4 (He.ga K "Tree") "place_of" ["self", "thing"] (spNum K (fun t i => topN t.hol t.n i) RankT) := by
  refine ⟨f0, fd, M, F.bindsN bn_Tree_M_place_of, okX F sc_Tree_M_place_of (fun vs H Q E h => ?_) (fun f cdv A outer s H vs Q E hr h => ?_)⟩
  · first | (obtain ⟨rfl, _⟩ := h; rfl) | (obtain ⟨_, rfl, _⟩ := h; rfl) | (obtain ⟨_, _, rfl, _⟩ := h; rfl) | (obtain ⟨_, _, _, rfl, _⟩ := h; rfl) | (obtain ⟨_, _, _, _, rfl, _⟩ := h; rfl) | (obtain ⟨_, _, _, _, _, rfl, _⟩ := h; rfl) | (obtain ⟨_, _, _, _, _, _, rfl, _⟩ := h; rfl) | (obtain ⟨_, _, _, _, _, _, _, rfl, _⟩ := h; rfl) | (obtain ⟨_, _, _, _, _, _, _, _, rfl, _⟩ := h; rfl) | (obtain ⟨_, _, _, _, _, _, _, _, _, rfl, _⟩ := h; rfl) | (obtain ⟨_, _, _, _, _, _, _, _, _, _, rfl, _⟩ := h; rfl) | (obtain ⟨_, _, _, _, _, _, _, _, _, _, _, rfl, _⟩ := h; rfl) | (obtain ⟨_, _, _, _, _, _, _, _, _, _, _, _, rfl, _⟩ := h; rfl)
  · skip
    obtain ⟨f_Tree_M_check_thing, fd_Tree_M_check_thing, m_Tree_M_check_thing, b_Tree_M_check_thing, G_Tree_M_check_thing⟩ := C_Tree_M_check_thing.ex
    refine ⟨_, (pss_cons (ps_expr (pe_meth (pv 0) T.cl_Tree m_Tree_M_check_thing G_Tree_M_check_thing (hr.mono (by decide)) b_Tree_M_check_thing .nil (passes_call (takes_of rfl rfl rfl rfl) (fun _ _ _ _ z => z)) (Fx.pa_c (pv 1) pa_nil)))
        (pss_cons (ps_set (i := 2) sc_Tree_M_place_of.nd rfl (Or.inl rfl) (pv 1))
        (pss_cons (ps_while (passes_of rfl) (pt_cmpR op_ne (pe_ix Fx.ix_L (Fx.pe_fldK (K := K) rfl (pv 0) rfl) (pv 2) (fun _ _ => rfl)) pe_int (nomark _)) (pss_one (ps_set (i := 2) sc_Tree_M_place_of.nd rfl (Or.inl rfl) (pe_ix Fx.ix_L (Fx.pe_fldK (K := K) rfl (pv 0) rfl) (pv 2) (fun _ _ => rfl)))))
        (pss_one (ps_ret (pv 2)))))), ?_⟩
    obtain ⟨x, A, t, v, rfl, L, ok, ⟨h0, r, hr⟩, h⟩ := h
    obtain ⟨dx, hx⟩ := L.ins
    refine seqI fun K1 k1 => ?_
    walk_at "rd"
    refine ⟨_, _, hx, rfl, x, A, t, v, rfl, L, ok, ?_⟩
    rcases h with ⟨i, rfl, hi, q⟩ | h
    · refine .inl ⟨i, rfl, hi, fun H1 s1 => k1 _ _ ?_⟩
      clear k1
      have L1 := L.same s1
      have hx1 := s1 _ _ hx
      have q : Q (.int (topN t.hol t.n i : Nat)) H1 := q H1 s1
      clear L hx
      refine seqI fun K1 k1 => ?_
      walk_at "rd"
      refine k1 _ _ ?_
      clear k1
      refine seqI fun K1 k1 => ?_
      refine whileF (fun m σ H' => ∃ at_ : Nat, σ = [some (.ref x), some (.int i), some (.int at_)] ∧ H' = H1 ∧ at_ ≤ t.n ∧ m = (if at_ = 0 then 0 else r at_) ∧ topN t.hol m at_ = topN t.hol t.n i) (if i = 0 then 0 else r i) ⟨i, rfl, rfl, hi, rfl, ?_⟩ ?_
      · exact (topN_more ok.vh h0 hr _ _ hi (fun g => by rw [if_neg g]; exact Nat.le_refl _) _ (by split <;> rename_i g <;> first | exact Nat.zero_le _ | exact (hr i (by omega) hi).2)).symm
      rintro m σ H' ⟨at_, rfl, rfl, ha, em, et⟩ A2 B2 ka kb
      walk_at "rd"
      refine ⟨_, _, _, hx1, T.cl_Tree, T.n_Tree_holders, _, rfl, _, rfl, _, L1.hol, _, ni_at (by rw [ok.lh]; omega), rfl, ?_⟩
      by_cases g : t.hol.getD at_ 0 = 0
      · rw [if_pos (by rw [g]; rfl)]
        refine kb _ (k1 _ _ ?_)
        clear ka kb k1
        walk_at "rd"
        have e : topN t.hol m at_ = at_ := by
          cases m with
          | zero => rfl
          | succ m => exact if_pos g
        rw [← et, e] at q
        exact q
      · rw [if_neg (fun z => g (by have := V.int.inj z; omega))]
        refine ka _ ?_
        clear ka kb k1
        have g0 : at_ ≠ 0 := fun e => g (by rw [e]; exact h0)
        rw [if_neg g0] at em
        have h1 := (hr at_ (by omega) ha).1
        obtain ⟨m, rfl⟩ : ∃ q, m = q + 1 := ⟨m - 1, by omega⟩
        have e : topN t.hol (m + 1) at_ = topN t.hol m (t.hol.getD at_ 0) := if_neg g
        have ha2 : t.hol.getD at_ 0 ≤ t.n := getD_le ok.vh
        have hb : r (t.hol.getD at_ 0) ≤ m := by omega
        rw [e, topN_more ok.vh h0 hr _ _ ha2 (fun _ => Nat.le_refl _) m hb] at et
        walk_at "rd"
        exact ⟨_, _, _, hx1, T.cl_Tree, T.n_Tree_holders, _, rfl, _, rfl, _, L1.hol, _, ni_at (by rw [ok.lh]; omega), (if t.hol.getD at_ 0 = 0 then 0 else r (t.hol.getD at_ 0)), (by rw [if_neg g]; omega), _, rfl, ha2, rfl, by rw [if_neg g]; exact et⟩
    · exact .inr h
end
section
variable {P : Program} {w : World} {K : PySem.W.Frag} {mg : Str → Option Value} {base : Heap}
theorem ok_Tree_M_parts_of {f0 : Addr} {fd : FuncData} (F : FunD K "parts_of" "Tree.parts_of" (defArgs s_Tree_M_parts_of) (defBody s_Tree_M_parts_of) (defScope s_Tree_M_parts_of) [] [] f0 fd) (M : Meth K (He.ga K "Tree") "parts_of" f0) (T : Tx P K mg) (C_Tree_M_check_thing : CalM P w K mg base (L2.CX P w) 3 (He.ga K "Tree") "check_thing" ["self", "thing"] (spChk K))  : CalM P w K mg base (L2.CX P w) 4 (He.ga K "Tree") "parts_of" ["self", "thing"] (spParts K) := by
  refine ⟨f0, fd, M, F.bindsN bn_Tree_M_parts_of, okX F sc_Tree_M_parts_of (fun vs H Q E h => ?_) (fun f cdv A outer s H vs Q E hr h => ?_)⟩
  · first | (obtain ⟨rfl, _⟩ := h; rfl) | (obtain ⟨_, rfl, _⟩ := h; rfl) | (obtain ⟨_, _, rfl, _⟩ := h; rfl) | (obtain ⟨_, _, _, rfl, _⟩ := h; rfl) | (obtain ⟨_, _, _, _, rfl, _⟩ := h; rfl) | (obtain ⟨_, _, _, _, _, rfl, _⟩ := h; rfl) | (obtain ⟨_, _, _, _, _, _, rfl, _⟩ := h; rfl) | (obtain ⟨_, _, _, _, _, _, _, rfl, _⟩ := h; rfl) | (obtain ⟨_, _, _, _, _, _, _, _, rfl, _⟩ := h; rfl) | (obtain ⟨_, _, _, _, _, _, _, _, _, rfl, _⟩ := h; rfl) | (obtain ⟨_, _, _, _, _, _, _, _, _, _, rfl, _⟩ := h; rfl) | (obtain ⟨_, _, _, _, _, _, _, _, _, _, _, rfl, _⟩ := h; rfl) | (obtain ⟨_, _, _, _, _, _, _, _, _, _, _, _, rfl, _⟩ := h; rfl)
  · skip
    obtain ⟨f_Tree_M_check_thing, fd_Tree_M_check_thing, m_Tree_M_check_thing, b_Tree_M_check_thing, G_Tree_M_check_thing⟩ := C_Tree_M_check_thing.ex
    refine ⟨_, (pss_cons (ps_expr (pe_meth (pv 0) T.cl_Tree m_Tree_M_check_thing G_Tree_M_check_thing (hr.mono (by decide)) b_Tree_M_check_thing .nil (passes_call (takes_of rfl rfl rfl rfl) (fun _ _ _ _ z => z)) (Fx.pa_c (pv 1) pa_nil)))
        (pss_cons (ps_set (i := 2) sc_Tree_M_parts_of.nd rfl (Or.inl rfl) (pe_lst pa_nil))
        (pss_cons (ps_set (i := 3) sc_Tree_M_parts_of.nd rfl (Or.inl rfl) (pe_ix Fx.ix_L (Fx.pe_fldK (K := K) rfl (pv 0) rfl) (pv 1) (fun _ _ => rfl)))
        (pss_cons (ps_while (passes_of rfl) (pt_cmpR op_ne (pv 3) pe_int (nomark _)) (pss_cons (ps_expr (pe_bm PySem.F.plainAttrs_list PySem.F.slot_list_append PySem.F.type_list_append mt_append (pv 2) (Fx.pa_c (pv 3) pa_nil)))
        (pss_one (ps_set (i := 3) sc_Tree_M_parts_of.nd rfl (Or.inl rfl) (pe_ix Fx.ix_L (Fx.pe_fldK (K := K) rfl (pv 0) rfl) (pv 3) (fun _ _ => rfl))))))
        (pss_one (ps_ret (Fx.pe_cTy Fx.tup_L T.b_tuple (by decide +kernel) (Fx.pa_c (pv 2) pa_nil)))))))), ?_⟩
    obtain ⟨x, A, t, P, v, rfl, L, ok, F, h⟩ := h
    obtain ⟨dx, hx⟩ := L.ins
    refine seqI fun K1 k1 => ?_
    walk_at "rd"
    refine ⟨_, _, hx, rfl, x, A, t, v, rfl, L, ok, ?_⟩
    rcases h with ⟨i, rfl, hi, q⟩ | h
    · refine .inl ⟨i, rfl, hi, fun H1 s1 => k1 _ _ ?_⟩
      clear k1
      have L1 := L.same s1
      have hx1 := s1 _ _ hx
      clear L hx
      refine seqI fun K1 k1 => ?_
      walk_at "rd"
      refine ⟨by decide, fun p np => k1 _ _ ?_⟩
      clear k1
      have sp := same_new (o := .lst []) np
      have hp : (upd H1 p (.lst [])) p = some (.lst []) := upd_same
      refine seqI fun K1 k1 => ?_
      walk_at "rd"
      refine ⟨_, _, _, sp _ _ hx1, T.cl_Tree, T.n_Tree_firsts, _, rfl, _, rfl, _, (L1.same sp).fir, _, ni_at (by rw [ok.lf]; omega), k1 _ _ ?_⟩
      clear k1
      have fl : Chain t.bes (t.fir.getD i 0) (partsOf P i) := by
        unfold partsOf
        by_cases g : i = 0
        · rw [if_pos g, g]
          exact F.f0
        · rw [if_neg g]
          exact F.ch i (by omega) hi
      have fm : ∀ z ∈ partsOf P i, z ≤ t.n := fun z hz => by
        unfold partsOf at hz
        by_cases g : i = 0
        · rw [if_pos g] at hz
          cases hz
        · rw [if_neg g] at hz
          exact ((F.mem i z hi).mp hz).2.1
      have fn : (partsOf P i).Nodup := by
        unfold partsOf
        by_cases g : i = 0
        · rw [if_pos g]
          exact .nil
        · rw [if_neg g, List.getD_eq_getElem?_getD]
          cases e : P[i]? with
          | none => exact .nil
          | some l => exact F.nd l (List.mem_of_getElem? e)
      have fz := nodup_lt fn (n := t.n + 1) fun z hz => by have := fm z hz; omega
      generalize partsOf P i = ps at fl fm fn q fz
      refine seqI fun K1 k1 => ?_
      refine whileF (fun m σ H' => ∃ (f : Nat) (ds rs : List Nat), σ = [some (.ref x), some (.int i), some (.ref p), some (.int f)] ∧ ps = ds ++ rs ∧ m = rs.length ∧ Chain t.bes f rs ∧ H' = upd H1 p (.lst (ni ds))) ps.length ⟨_, [], ps, rfl, rfl, rfl, fl, rfl⟩ ?_
      rintro m σ H' ⟨f, ds, rs, rfl, ep, rfl, hc, rfl⟩ A2 B2 ka kb
      have sq := same_new (o := .lst (ni ds)) np
      walk_at "rd"
      cases rs with
      | nil =>
        have hc : f = 0 := hc
        rw [if_pos (by rw [hc]; rfl)]
        refine kb _ (k1 _ _ ?_)
        clear ka kb k1
        rw [List.append_nil] at ep
        walk_at "rd"
        refine fun q1 nq1 => ?_
        rw [← ep]
        rw [← ep] at nq1 sq
        exact q q1 _ (s1.trans (sq.trans (same_new nq1))) (s1.free (sq.free nq1)) upd_same
      | cons b rs =>
        obtain ⟨rfl, hb0, hc⟩ := hc
        rw [if_neg (fun z => hb0 (by omega))]
        refine ka _ ?_
        clear ka kb k1
        have hbn : f ≤ t.n := fm f (by rw [ep]; exact List.mem_append_right _ List.mem_cons_self)
        have hl : ds.length < sizeLine := by
          have e := congrArg List.length ep
          rw [List.length_append] at e
          have := ok.n60
          exact Nat.lt_of_lt_of_le (by omega : _ < 100) (by decide)
        walk_at "rd"
        refine ⟨tyL upd_same, ?_⟩
        walk_at "rd"
        rw [upd_upd]
        have sr := same_new (o := .lst (ni ds ++ [.int (f : Nat)])) np
        have en : ni ds ++ [.int (f : Nat)] = ni (ds ++ [f]) := by
          rw [ni, ni, List.map_append]
          rfl
        exact ⟨by rw [ni_len]; exact hl, _, _, _, sr _ _ hx1, T.cl_Tree, T.n_Tree_besides, _, rfl, _, rfl, _, (L1.same sr).bes, _, ni_at (by rw [ok.lb]; omega), _, Nat.lt_succ_self _, _, rfl, ds ++ [f], rs, by rw [ep]; simp, rfl, hc, by rw [en]⟩
    · exact .inr h
end
section
variable {P : Program} {w : World} {K : PySem.W.Frag} {mg : Str → Option Value} {base : Heap}
theorem ok_Tree_M_holds {f0 : Addr} {fd : FuncData} (F : FunD K "holds" "Tree.holds" (defArgs s_Tree_M_holds) (defBody s_Tree_M_holds) (defScope s_Tree_M_holds) [] [] f0 fd) (M : Meth K (He.ga K "Tree") "holds" f0) (T : Tx P K mg) (C_Tree_M_check_thing : CalM P w K mg base (L2.CX P w) 3 (He.ga K "Tree") "check_thing" ["self", "thing"] (spChk K))  : CalM P w K mg base (L2.CX P w) 4 (He.ga K "Tree") "holds" ["self", "thing", "other"] (spHolds K) := by
  refine ⟨f0, fd, M, F.bindsN bn_Tree_M_holds, okX F sc_Tree_M_holds (fun vs H Q E h => ?_) (fun f cdv A outer s H vs Q E hr h => ?_)⟩
  · first | (obtain ⟨rfl, _⟩ := h; rfl) | (obtain ⟨_, rfl, _⟩ := h; rfl) | (obtain ⟨_, _, rfl, _⟩ := h; rfl) | (obtain ⟨_, _, _, rfl, _⟩ := h; rfl) | (obtain ⟨_, _, _, _, rfl, _⟩ := h; rfl) | (obtain ⟨_, _, _, _, _, rfl, _⟩ := h; rfl) | (obtain ⟨_, _, _, _, _, _, rfl, _⟩ := h; rfl) | (obtain ⟨_, _, _, _, _, _, _, rfl, _⟩ := h; rfl) | (obtain ⟨_, _, _, _, _, _, _, _, rfl, _⟩ := h; rfl) | (obtain ⟨_, _, _, _, _, _, _, _, _, rfl, _⟩ := h; rfl) | (obtain ⟨_, _, _, _, _, _, _, _, _, _, rfl, _⟩ := h; rfl) | (obtain ⟨_, _, _, _, _, _, _, _, _, _, _, rfl, _⟩ := h; rfl) | (obtain ⟨_, _, _, _, _, _, _, _, _, _, _, _, rfl, _⟩ := h; rfl)
  · skip
    obtain ⟨f_Tree_M_check_thing, fd_Tree_M_check_thing, m_Tree_M_check_thing, b_Tree_M_check_thing, G_Tree_M_check_thing⟩ := C_Tree_M_check_thing.ex
    refine ⟨_, (pss_cons (ps_expr (pe_meth (pv 0) T.cl_Tree m_Tree_M_check_thing G_Tree_M_check_thing (hr.mono (by decide)) b_Tree_M_check_thing .nil (passes_call (takes_of rfl rfl rfl rfl) (fun _ _ _ _ z => z)) (Fx.pa_c (pv 1) pa_nil)))
        (pss_cons (ps_expr (pe_meth (pv 0) T.cl_Tree m_Tree_M_check_thing G_Tree_M_check_thing (hr.mono (by decide)) b_Tree_M_check_thing .nil (passes_call (takes_of rfl rfl rfl rfl) (fun _ _ _ _ z => z)) (Fx.pa_c (pv 2) pa_nil)))
        (pss_cons (ps_set (i := 3) sc_Tree_M_holds.nd rfl (Or.inl rfl) (pe_ix Fx.ix_L (Fx.pe_fldK (K := K) rfl (pv 0) rfl) (pv 2) (fun _ _ => rfl)))
        (pss_cons (ps_while (passes_of rfl) (pt_cmpR op_ne (pv 3) pe_int (nomark _)) (pss_cons (ps_if (pt_cmpR op_eq (pv 3) (pv 1) (nomark _)) (pss_one (ps_ret pe_bl)) pss_nil)
        (pss_one (ps_set (i := 3) sc_Tree_M_holds.nd rfl (Or.inl rfl) (pe_ix Fx.ix_L (Fx.pe_fldK (K := K) rfl (pv 0) rfl) (pv 3) (fun _ _ => rfl))))))
        (pss_one (ps_ret pe_bl)))))), ?_⟩
    obtain ⟨x, A, t, v, w, rfl, L, ok, ⟨h0, r, hr⟩, h⟩ := h
    obtain ⟨dx, hx⟩ := L.ins
    refine seqI fun K1 k1 => ?_
    walk_at "rd"
    refine ⟨_, _, hx, rfl, x, A, t, v, rfl, L, ok, ?_⟩
    rcases h with ⟨i, j, rfl, rfl, hi, hj, q⟩ | h | ⟨i, rfl, hi, hb, he⟩
    · refine .inl ⟨i, rfl, hi, fun H1 s1 => k1 _ _ ?_⟩
      clear k1
      have L1 := L.same s1
      have hx1 := s1 _ _ hx
      refine seqI fun K1 k1 => ?_
      walk_at "rd"
      refine ⟨_, _, hx1, rfl, x, A, t, _, rfl, L1, ok, .inl ⟨j, rfl, hj, fun H2 s2 => k1 _ _ ?_⟩⟩
      clear k1
      have L2 := L1.same s2
      have hx2 := s2 _ _ hx1
      have q := q H2 (s1.trans s2)
      clear L hx L1 hx1
      refine seqI fun K1 k1 => ?_
      walk_at "rd"
      refine ⟨_, _, _, hx2, T.cl_Tree, T.n_Tree_holders, _, rfl, _, rfl, _, L2.hol, _, ni_at (by rw [ok.lh]; omega), k1 _ _ ?_⟩
      clear k1
      have hf : t.hol.getD j 0 ≤ t.n := getD_le ok.vh
      generalize t.hol.getD j 0 = f0 at q hf
      generalize he : inside t.hol i t.n f0 = res at q
      refine seqI fun K1 k1 => ?_
      refine whileF (fun m σ H' => ∃ at_ : Nat, σ = [some (.ref x), some (.int i), some (.int j), some (.int at_)] ∧ H' = H2 ∧ at_ ≤ t.n ∧ m = (if at_ = 0 then 0 else r at_) ∧ inside t.hol i m at_ = res) (if f0 = 0 then 0 else r f0) ⟨f0, rfl, rfl, hf, rfl, ?_⟩ ?_
      · rw [← he]
        exact (inside_more ok.vh hr _ _ hf (fun g => by rw [if_neg g]; exact Nat.le_refl _) _ (by split <;> rename_i g <;> first | exact Nat.zero_le _ | exact (hr f0 (by omega) hf).2)).symm
      rintro m σ H' ⟨at_, rfl, rfl, ha, em, et⟩ A2 B2 ka kb
      walk_at "rd"
      by_cases g : at_ = 0
      · rw [if_pos (by rw [g]; rfl)]
        refine kb _ (k1 _ _ ?_)
        clear ka kb k1
        walk_at "rd"
        rw [if_pos g] at em
        subst em
        rw [← et] at q
        exact q
      · rw [if_neg (fun z => g (by omega))]
        refine ka _ ?_
        clear ka kb k1
        rw [if_neg g] at em
        have h1 := (hr at_ (by omega) ha).1
        obtain ⟨m, rfl⟩ : ∃ q, m = q + 1 := ⟨m - 1, by omega⟩
        unfold inside at et
        rw [if_neg g] at et
        refine seqI fun K1 k1 => ?_
        walk_at "rd"
        by_cases g2 : at_ = i
        · rw [if_pos (by rw [g2])]
          rw [if_pos g2] at et
          rw [← et] at q
          exact q
        · rw [if_neg (fun z => g2 (by omega))]
          rw [if_neg g2] at et
          refine k1 _ _ ?_
          clear k1
          have ha2 : t.hol.getD at_ 0 ≤ t.n := getD_le ok.vh
          have hb : r (t.hol.getD at_ 0) ≤ m := by omega
          have em2 : inside t.hol i m (t.hol.getD at_ 0) = inside t.hol i (if t.hol.getD at_ 0 = 0 then 0 else r (t.hol.getD at_ 0)) (t.hol.getD at_ 0) :=
            inside_more ok.vh hr _ _ ha2 (fun g => by rw [if_neg g]; exact Nat.le_refl _) m (by split <;> omega)
          rw [em2] at et
          walk_at "rd"
          exact ⟨_, _, _, hx2, T.cl_Tree, T.n_Tree_holders, _, rfl, _, rfl, _, L2.hol, _, ni_at (by rw [ok.lh]; omega), (if t.hol.getD at_ 0 = 0 then 0 else r (t.hol.getD at_ 0)), (by split <;> omega), _, rfl, ha2, rfl, et⟩
    · exact .inr h
    · refine .inl ⟨i, rfl, hi, fun H1 s1 => k1 _ _ ?_⟩
      clear k1
      refine seqI fun K1 k1 => ?_
      walk_at "rd"
      refine ⟨_, _, s1 _ _ hx, rfl, x, A, t, _, rfl, L.same s1, ok, .inr ⟨hb.same s1, fun d H' s' nd hd => he d H' (s1.trans s') (s1.free nd) hd⟩⟩
end
section
variable {P : Program} {w : World} {K : PySem.W.Frag} {mg : Str → Option Value} {base : Heap}
theorem ok_Tree_M_has_mark {f0 : Addr} {fd : FuncData} (F : FunD K "has_mark" "Tree.has_mark" (defArgs s_Tree_M_has_mark) (defBody s_Tree_M_has_mark) (defScope s_Tree_M_has_mark) [] [] f0 fd) (M : Meth K (He.ga K "Tree") "has_mark" f0) (T : Tx P K mg) (C_Tree_M_check_thing : CalM P w K mg base (L2.CX P w) 3 (He.ga K "Tree") "check_thing" ["self", "thing"] (spChk K)) (C_is_integer : Cal P w K mg base CX0 1 "is_integer" ["thing", "low", "high"] spIsI)  : CalM P w K mg base (L2.CX P w) 4 (He.ga K "Tree") "has_mark" ["self", "thing", "mark"] (spHas K) := by
  refine ⟨f0, fd, M, F.bindsN bn_Tree_M_has_mark, okX F sc_Tree_M_has_mark (fun vs H Q E h => ?_) (fun f cdv A outer s H vs Q E hr h => ?_)⟩
  · first | (obtain ⟨rfl, _⟩ := h; rfl) | (obtain ⟨_, rfl, _⟩ := h; rfl) | (obtain ⟨_, _, rfl, _⟩ := h; rfl) | (obtain ⟨_, _, _, rfl, _⟩ := h; rfl) | (obtain ⟨_, _, _, _, rfl, _⟩ := h; rfl) | (obtain ⟨_, _, _, _, _, rfl, _⟩ := h; rfl) | (obtain ⟨_, _, _, _, _, _, rfl, _⟩ := h; rfl) | (obtain ⟨_, _, _, _, _, _, _, rfl, _⟩ := h; rfl) | (obtain ⟨_, _, _, _, _, _, _, _, rfl, _⟩ := h; rfl) | (obtain ⟨_, _, _, _, _, _, _, _, _, rfl, _⟩ := h; rfl) | (obtain ⟨_, _, _, _, _, _, _, _, _, _, rfl, _⟩ := h; rfl) | (obtain ⟨_, _, _, _, _, _, _, _, _, _, _, rfl, _⟩ := h; rfl) | (obtain ⟨_, _, _, _, _, _, _, _, _, _, _, _, rfl, _⟩ := h; rfl)
  · skip
    obtain ⟨f_Tree_M_check_thing, fd_Tree_M_check_thing, m_Tree_M_check_thing, b_Tree_M_check_thing, G_Tree_M_check_thing⟩ := C_Tree_M_check_thing.ex
    refine ⟨_, (pss_cons (ps_expr (pe_meth (pv 0) T.cl_Tree m_Tree_M_check_thing G_Tree_M_check_thing (hr.mono (by decide)) b_Tree_M_check_thing .nil (passes_call (takes_of rfl rfl rfl rfl) (fun _ _ _ _ z => z)) (Fx.pa_c (pv 1) pa_nil)))
        (pss_cons (ps_if (pt_not (pt_val (Fx.pe_cal C_is_integer (hr.mono (by decide)) pass0 (Fx.pa_c (pv 2) (Fx.pa_c pe_int (Fx.pa_c (pe_op op_sub (Fx.pe_cst T.c_MOST_MARKS) pe_int) pa_nil)))))) (pss_one (Fx.ps_raiseFx rfl T.x_BadMark T.g_BadMark T.b_super hr (takes_of rfl rfl rfl rfl) (Fx.pa_c (pv 2) pa_nil))) pss_nil)
        (pss_one (ps_ret (pe_cmp (pc_din (hu_of hr) (pv 2) (pe_ix Fx.ix_L (Fx.pe_fldK (K := K) rfl (pv 0) rfl) (pv 1) (fun _ _ => rfl))) rfl))))), ?_⟩
    obtain ⟨x, A, t, v, m, rfl, L, ok, h⟩ := h
    obtain ⟨dx, hx⟩ := L.ins
    refine seqI fun K1 k1 => ?_
    walk_at "rd"
    refine ⟨_, _, hx, rfl, x, A, t, v, rfl, L, ok, ?_⟩
    rcases h with ⟨i, j, rfl, rfl, hi, hj, q⟩ | h | ⟨i, rfl, hi, hb, he⟩
    · refine .inl ⟨i, rfl, hi, fun H1 s1 => k1 _ _ ?_⟩
      clear k1
      have L1 := L.same s1
      have hx1 := s1 _ _ hx
      refine seqI fun K1 k1 => ?_
      walk_at "rd"
      refine ⟨_, _, _, rfl, .inl ⟨_, rfl, by omega, by omega, ?_⟩⟩
      walk_at "rd"
      refine k1 _ _ ?_
      clear k1
      have hi2 : i < t.mks.length := by rw [ok.lm]; omega
      have hd : i < A.ds.length := by rw [L.dl]; exact hi2
      walk_at "rd"
      refine ⟨_, _, _, hx1, T.cl_Tree, T.n_Tree_mark_rows, _, rfl, _, rfl, _, L1.mr, _, atI_get (i := i) (by rw [List.getElem?_map, List.getElem?_eq_getElem hd]; rfl), _, rfl, _, DGet.k (k := .inl (j : Int)) (L1.ds i _ _ (List.getElem?_eq_getElem hd) (List.getElem?_eq_getElem hi2)), ?_⟩
      rw [valV_mkv]
      have e : t.mks.getD i [] = t.mks[i] := by rw [List.getD_eq_getElem?_getD, List.getElem?_eq_getElem hi2]; rfl
      have q := q H1 s1
      rw [e] at q
      by_cases hm : j ∈ t.mks[i]
      · rw [decide_eq_true hm] at q
        rw [if_pos hm]
        exact q
      · rw [decide_eq_false hm] at q
        rw [if_neg hm]
        exact q
    · exact .inr h
    · refine .inl ⟨i, rfl, hi, fun H1 s1 => k1 _ _ ?_⟩
      clear k1
      refine seqI fun K1 k1 => ?_
      walk_at "rd"
      refine ⟨_, _, _, rfl, .inr ⟨hb.same s1, ?_⟩⟩
      walk_at "rd"
      exact fun d nd => he d _ (s1.trans (same_new nd)) (s1.free nd) upd_same
end
section
variable {P : Program} {w : World} {K : PySem.W.Frag} {mg : Str → Option Value} {base : Heap}
theorem ok_Tree_M_give {f0 : Addr} {fd : FuncData} (F : FunD K "give" "Tree.give" (defArgs s_Tree_M_give) (defBody s_Tree_M_give) (defScope s_Tree_M_give) [] [] f0 fd) (M : Meth K (He.ga K "Tree") "give" f0) (T : Tx P K mg) (C_Tree_M_has_mark : CalM P w K mg base (L2.CX P w) 4 (He.ga K "Tree") "has_mark" ["self", "thing", "mark"] (spHas K))  : CalM P w K mg base (L2.CX P w) 5 (He.ga K "Tree") "give" ["self", "thing", "mark"] (spMarks K giveL) := by
  refine ⟨f0, fd, M, F.bindsN bn_Tree_M_give, okX F sc_Tree_M_give (fun vs H Q E h => ?_) (fun f cdv A outer s H vs Q E hr h => ?_)⟩
  · first | (obtain ⟨rfl, _⟩ := h; rfl) | (obtain ⟨_, rfl, _⟩ := h; rfl) | (obtain ⟨_, _, rfl, _⟩ := h; rfl) | (obtain ⟨_, _, _, rfl, _⟩ := h; rfl) | (obtain ⟨_, _, _, _, rfl, _⟩ := h; rfl) | (obtain ⟨_, _, _, _, _, rfl, _⟩ := h; rfl) | (obtain ⟨_, _, _, _, _, _, rfl, _⟩ := h; rfl) | (obtain ⟨_, _, _, _, _, _, _, rfl, _⟩ := h; rfl) | (obtain ⟨_, _, _, _, _, _, _, _, rfl, _⟩ := h; rfl) | (obtain ⟨_, _, _, _, _, _, _, _, _, rfl, _⟩ := h; rfl) | (obtain ⟨_, _, _, _, _, _, _, _, _, _, rfl, _⟩ := h; rfl) | (obtain ⟨_, _, _, _, _, _, _, _, _, _, _, rfl, _⟩ := h; rfl) | (obtain ⟨_, _, _, _, _, _, _, _, _, _, _, _, rfl, _⟩ := h; rfl)
  · skip
    obtain ⟨f_Tree_M_has_mark, fd_Tree_M_has_mark, m_Tree_M_has_mark, b_Tree_M_has_mark, G_Tree_M_has_mark⟩ := C_Tree_M_has_mark.ex
    refine ⟨_, (pss_one (ps_if (PW.pt (pw_and (pt_not (pt_val (pe_meth (pv 0) T.cl_Tree m_Tree_M_has_mark G_Tree_M_has_mark (hr.mono (by decide)) b_Tree_M_has_mark .nil (passes_call (takes_of rfl rfl rfl rfl) (fun _ _ _ _ z => z)) (Fx.pa_c (pv 1) (Fx.pa_c (pv 2) pa_nil))))) (pw_and1 (pt_cmpR op_ne (pv 1) pe_int (nomark _))))) (pss_one (ps_dput (hu_of hr) (pe_ix Fx.ix_L (Fx.pe_fldK (K := K) rfl (pv 0) rfl) (pv 1) (fun _ _ => rfl)) (pv 2) pe_bl rfl)) pss_nil)), ?_⟩
    obtain ⟨x, A, t, v, m, rfl, L, ok, h⟩ := h
    obtain ⟨dx, hx⟩ := L.ins
    refine ifI fun A1 B1 ka kb => ?_
    walk_at "rd"
    refine ⟨_, _, hx, rfl, x, A, t, v, m, rfl, L, ok, ?_⟩
    rcases h with ⟨i, j, rfl, rfl, hi, hj, q⟩ | h | ⟨i, rfl, hi, hb, he⟩
    · refine .inl ⟨i, j, rfl, rfl, hi, hj, fun H1 s1 => ⟨_, rfl, ?_⟩⟩
      have L1 := L.same s1
      have hx1 := s1 _ _ hx
      have hi2 : i < t.mks.length := by rw [ok.lm]; omega
      have hd : i < A.ds.length := by rw [L.dl]; exact hi2
      have e : t.mks.getD i [] = t.mks[i] := by rw [List.getD_eq_getElem?_getD, List.getElem?_eq_getElem hi2]; rfl
      have stay : (i = 0 ∨ j ∈ t.mks.getD i []) → B1 H1 := fun g => by
        refine kb _ ?_
        walk_at "rd"
        have q := q H1 (.of s1)
        rw [giveL, if_pos g, setD_self hi2] at q
        exact q L1 ok
      by_cases hm : j ∈ t.mks.getD i []
      · rw [decide_eq_true hm, if_neg (by decide)]
        exact stay (.inr hm)
      · rw [decide_eq_false hm, if_pos (by decide)]
        refine ⟨rfl, ?_⟩
        by_cases h0 : i = 0
        · rw [if_pos (by rw [h0]; rfl)]
          exact stay (.inl h0)
        · rw [if_neg (fun z => h0 (by have := V.int.inj z; omega))]
          clear stay
          refine ka _ ?_
          clear ka kb
          have q := q (upd H1 A.ds[i] (.dK (mkv (t.mks[i] ++ [j])))) (Kf.upd (.of s1) (.inr (.inr (.inr (List.getElem_mem hd)))) _)
          rw [giveL, if_neg (fun g => g.elim h0 hm)] at q
          rw [e] at q hm
          have q := q (L1.mark (List.getElem?_eq_getElem hd) hi2) (ok.mark (List.nodup_append.mpr ⟨(ok.vm _ (List.getElem_mem hi2)).1, by simp, fun a ha b hb z => hm (by rw [List.mem_singleton.mp hb] at z; rw [← z]; exact ha)⟩) fun m hm2 => (List.mem_append.mp hm2).elim (fun h => (ok.vm _ (List.getElem_mem hi2)).2 m h) fun h => by rw [List.mem_singleton.mp h]; exact hj)
          have hdd := L1.ds i _ _ (List.getElem?_eq_getElem hd) (List.getElem?_eq_getElem hi2)
          have hs : (mkv t.mks[i]).length < sizeLine := by
            rw [mkv, List.length_map]
            have := nodup_lt (ok.vm _ (List.getElem_mem hi2)).1 (ok.vm _ (List.getElem_mem hi2)).2
            exact Nat.lt_of_lt_of_le (by omega : _ < 100) (by decide)
          walk_at "rd"
          refine ⟨_, _, _, hx1, T.cl_Tree, T.n_Tree_mark_rows, _, rfl, _, rfl, _, L1.mr, _, atI_get (i := i) (by rw [List.getElem?_map, List.getElem?_eq_getElem hd]; rfl), _, rfl, _, DPut.k (k := .inl (j : Int)) hdd hs, ?_⟩
          rw [putK_mkv, if_neg hm]
          exact q
    · exact .inr (.inl h)
    · exact .inr (.inr ⟨i, rfl, hi, hb, he⟩)
end
section
variable {P : Program} {w : World} {K : PySem.W.Frag} {mg : Str → Option Value} {base : Heap}
theorem ok_Tree_M_strip {f0 : Addr} {fd : FuncData} (F : FunD K "strip" "Tree.strip" (defArgs s_Tree_M_strip) (defBody s_Tree_M_strip) (defScope s_Tree_M_strip) [] [] f0 fd) (M : Meth K (He.ga K "Tree") "strip" f0) (T : Tx P K mg) (C_Tree_M_has_mark : CalM P w K mg base (L2.CX P w) 4 (He.ga K "Tree") "has_mark" ["self", "thing", "mark"] (spHas K))  : CalM P w K mg base (L2.CX P w) 5 (He.ga K "Tree") "strip" ["self", "thing", "mark"] (spMarks K fun _ => stripL) := by
  refine ⟨f0, fd, M, F.bindsN bn_Tree_M_strip, okX F sc_Tree_M_strip (fun vs H Q E h => ?_) (fun f cdv A outer s H vs Q E hr h => ?_)⟩
  · first | (obtain ⟨rfl, _⟩ := h; rfl) | (obtain ⟨_, rfl, _⟩ := h; rfl) | (obtain ⟨_, _, rfl, _⟩ := h; rfl) | (obtain ⟨_, _, _, rfl, _⟩ := h; rfl) | (obtain ⟨_, _, _, _, rfl, _⟩ := h; rfl) | (obtain ⟨_, _, _, _, _, rfl, _⟩ := h; rfl) | (obtain ⟨_, _, _, _, _, _, rfl, _⟩ := h; rfl) | (obtain ⟨_, _, _, _, _, _, _, rfl, _⟩ := h; rfl) | (obtain ⟨_, _, _, _, _, _, _, _, rfl, _⟩ := h; rfl) | (obtain ⟨_, _, _, _, _, _, _, _, _, rfl, _⟩ := h; rfl) | (obtain ⟨_, _, _, _, _, _, _, _, _, _, rfl, _⟩ := h; rfl) | (obtain ⟨_, _, _, _, _, _, _, _, _, _, _, rfl, _⟩ := h; rfl) | (obtain ⟨_, _, _, _, _, _, _, _, _, _, _, _, rfl, _⟩ := h; rfl)
  · skip
    obtain ⟨f_Tree_M_has_mark, fd_Tree_M_has_mark, m_Tree_M_has_mark, b_Tree_M_has_mark, G_Tree_M_has_mark⟩ := C_Tree_M_has_mark.ex
    refine ⟨_, (pss_one (ps_if (pt_val (pe_meth (pv 0) T.cl_Tree m_Tree_M_has_mark G_Tree_M_has_mark (hr.mono (by decide)) b_Tree_M_has_mark .nil (passes_call (takes_of rfl rfl rfl rfl) (fun _ _ _ _ z => z)) (Fx.pa_c (pv 1) (Fx.pa_c (pv 2) pa_nil)))) (pss_one (ps_expr (pe_dpop1 (pe_ix Fx.ix_L (Fx.pe_fldK (K := K) rfl (pv 0) rfl) (pv 1) (fun _ _ => rfl)) (pv 2) ⟨rfl, rfl, rfl, rfl⟩))) pss_nil)), ?_⟩
    obtain ⟨x, A, t, v, m, rfl, L, ok, h⟩ := h
    obtain ⟨dx, hx⟩ := L.ins
    refine ifI fun A1 B1 ka kb => ?_
    walk_at "rd"
    refine ⟨_, _, hx, rfl, x, A, t, v, m, rfl, L, ok, ?_⟩
    rcases h with ⟨i, j, rfl, rfl, hi, hj, q⟩ | h | ⟨i, rfl, hi, hb, he⟩
    · refine .inl ⟨i, j, rfl, rfl, hi, hj, fun H1 s1 => ⟨_, rfl, ?_⟩⟩
      have L1 := L.same s1
      have hx1 := s1 _ _ hx
      have hi2 : i < t.mks.length := by rw [ok.lm]; omega
      have hd : i < A.ds.length := by rw [L.dl]; exact hi2
      have e : t.mks.getD i [] = t.mks[i] := by rw [List.getD_eq_getElem?_getD, List.getElem?_eq_getElem hi2]; rfl
      rw [e] at q ⊢
      by_cases hm : j ∈ t.mks[i]
      · rw [decide_eq_true hm, if_pos rfl]
        refine ka _ ?_
        clear ka kb
        have q := q (upd H1 A.ds[i] (.dK (mkv (stripL j t.mks[i])))) (Kf.upd (.of s1) (.inr (.inr (.inr (List.getElem_mem hd)))) _) (L1.mark (List.getElem?_eq_getElem hd) hi2) (ok.mark ((ok.vm _ (List.getElem_mem hi2)).1.filter _) fun m h => (ok.vm _ (List.getElem_mem hi2)).2 m (List.mem_filter.mp h).1)
        have hdd := L1.ds i _ _ (List.getElem?_eq_getElem hd) (List.getElem?_eq_getElem hi2)
        walk_at "rd"
        refine ⟨_, _, _, hx1, T.cl_Tree, T.n_Tree_mark_rows, _, rfl, _, rfl, _, L1.mr, _, atI_get (i := i) (by rw [List.getElem?_map, List.getElem?_eq_getElem hd]; rfl), _, rfl, .inl ⟨_, .inl hdd⟩, _, hdd, .inl (j : Int), rfl, .bl true, by rw [valV_mkv, if_pos hm], ?_⟩
        rw [dropK_mkv]
        exact q
      · rw [decide_eq_false hm, if_neg (by decide)]
        refine kb _ ?_
        clear ka kb
        walk_at "rd"
        have q := q H1 (.of s1)
        have es : stripL j t.mks[i] = t.mks[i] := List.filter_eq_self.mpr fun a ha => by
          rw [decide_eq_false (fun z => hm (by rw [← z]; exact ha))]
          rfl
        dsimp only at q
        rw [es, List.set_getElem_self] at q
        exact q L1 ok
    · exact .inr (.inl h)
    · exact .inr (.inr ⟨i, rfl, hi, hb, he⟩)
end
section
variable {P : Program} {w : World} {K : PySem.W.Frag} {mg : Str → Option Value} {base : Heap}
theorem ok_Tree_M_move {f0 : Addr} {fd : FuncData} (F : FunD K "move" "Tree.move" (defArgs s_Tree_M_move) (defBody s_Tree_M_move) (defScope s_Tree_M_move) [] [] f0 fd) (M : Meth K (He.ga K "Tree") "move" f0) (T : Tx P K mg) (C_Tree_M_check_thing : CalM P w K mg base (L2.CX P w) 3 (He.ga K "Tree") "check_thing" ["self", "thing"] (spChk K)) (C_Tree_M_holds : CalM P w K mg base (L2.CX P w) 4 (He.ga K "Tree") "holds" ["self", "thing", "other"] (spHolds K))  : CalM P w K mg base (L2.CX P w) 5 (He.ga K "Tree") "move" ["self", "thing", "holder"] (spMove K) := by
  refine ⟨f0, fd, M, F.bindsN bn_Tree_M_move, okX F sc_Tree_M_move (fun vs H Q E h => ?_) (fun f cdv A outer s H vs Q E hr h => ?_)⟩
  · first | (obtain ⟨rfl, _⟩ := h; rfl) | (obtain ⟨_, rfl, _⟩ := h; rfl) | (obtain ⟨_, _, rfl, _⟩ := h; rfl) | (obtain ⟨_, _, _, rfl, _⟩ := h; rfl) | (obtain ⟨_, _, _, _, rfl, _⟩ := h; rfl) | (obtain ⟨_, _, _, _, _, rfl, _⟩ := h; rfl) | (obtain ⟨_, _, _, _, _, _, rfl, _⟩ := h; rfl) | (obtain ⟨_, _, _, _, _, _, _, rfl, _⟩ := h; rfl) | (obtain ⟨_, _, _, _, _, _, _, _, rfl, _⟩ := h; rfl) | (obtain ⟨_, _, _, _, _, _, _, _, _, rfl, _⟩ := h; rfl) | (obtain ⟨_, _, _, _, _, _, _, _, _, _, rfl, _⟩ := h; rfl) | (obtain ⟨_, _, _, _, _, _, _, _, _, _, _, rfl, _⟩ := h; rfl) | (obtain ⟨_, _, _, _, _, _, _, _, _, _, _, _, rfl, _⟩ := h; rfl)
  · skip
    obtain ⟨f_Tree_M_check_thing, fd_Tree_M_check_thing, m_Tree_M_check_thing, b_Tree_M_check_thing, G_Tree_M_check_thing⟩ := C_Tree_M_check_thing.ex
    obtain ⟨f_Tree_M_holds, fd_Tree_M_holds, m_Tree_M_holds, b_Tree_M_holds, G_Tree_M_holds⟩ := C_Tree_M_holds.ex
    refine ⟨_, (pss_cons (ps_expr (pe_meth (pv 0) T.cl_Tree m_Tree_M_check_thing G_Tree_M_check_thing (hr.mono (by decide)) b_Tree_M_check_thing .nil (passes_call (takes_of rfl rfl rfl rfl) (fun _ _ _ _ z => z)) (Fx.pa_c (pv 1) pa_nil)))
        (pss_cons (ps_expr (pe_meth (pv 0) T.cl_Tree m_Tree_M_check_thing G_Tree_M_check_thing (hr.mono (by decide)) b_Tree_M_check_thing .nil (passes_call (takes_of rfl rfl rfl rfl) (fun _ _ _ _ z => z)) (Fx.pa_c (pv 2) pa_nil)))
        (pss_cons (ps_if (PW.pt (pw_or (pt_cmpR op_eq (pv 1) pe_int (nomark _)) (pw_or (pt_cmpR op_eq (pv 1) (pv 2) (nomark _)) (pw_or1 (pt_val (pe_meth (pv 0) T.cl_Tree m_Tree_M_holds G_Tree_M_holds (hr.mono (by decide)) b_Tree_M_holds .nil (passes_call (takes_of rfl rfl rfl rfl) (fun _ _ _ _ z => z)) (Fx.pa_c (pv 1) (Fx.pa_c (pv 2) pa_nil)))))))) (pss_one ps_retN) pss_nil)
        (pss_cons (ps_set (i := 3) sc_Tree_M_move.nd rfl (Or.inl rfl) (pe_ix Fx.ix_L (Fx.pe_fldK (K := K) rfl (pv 0) rfl) (pv 1) (fun _ _ => rfl)))
        (pss_cons (ps_if (pt_cmpR op_ne (pv 3) pe_int (nomark _)) (pss_one (ps_if (pt_cmpR op_eq (pe_ix Fx.ix_L (Fx.pe_fldK (K := K) rfl (pv 0) rfl) (pv 3) (fun _ _ => rfl)) (pv 1) (nomark _)) (pss_one (ps_asg (pe_ix Fx.ix_L (Fx.pe_fldK (K := K) rfl (pv 0) rfl) (pv 1) (fun _ _ => rfl)) (pg_sub (Fx.pe_fldK (K := K) rfl (pv 0) rfl) (pv 3) set_list))) (pss_cons (ps_set (i := 4) sc_Tree_M_move.nd rfl (Or.inl rfl) (pe_ix Fx.ix_L (Fx.pe_fldK (K := K) rfl (pv 0) rfl) (pv 3) (fun _ _ => rfl)))
        (pss_cons (ps_while (passes_of rfl) (pt_cmpR op_ne (pe_ix Fx.ix_L (Fx.pe_fldK (K := K) rfl (pv 0) rfl) (pv 4) (fun _ _ => rfl)) (pv 1) (nomark _)) (pss_one (ps_set (i := 4) sc_Tree_M_move.nd rfl (Or.inl rfl) (pe_ix Fx.ix_L (Fx.pe_fldK (K := K) rfl (pv 0) rfl) (pv 4) (fun _ _ => rfl)))))
        (pss_one (ps_asg (pe_ix Fx.ix_L (Fx.pe_fldK (K := K) rfl (pv 0) rfl) (pv 1) (fun _ _ => rfl)) (pg_sub (Fx.pe_fldK (K := K) rfl (pv 0) rfl) (pv 4) set_list))))))) pss_nil)
        (pss_cons (ps_asg (pv 2) (pg_sub (Fx.pe_fldK (K := K) rfl (pv 0) rfl) (pv 1) set_list))
        (pss_cons (ps_asg pe_int (pg_sub (Fx.pe_fldK (K := K) rfl (pv 0) rfl) (pv 1) set_list))
        (pss_one (ps_if (pt_cmpR op_ne (pv 2) pe_int (nomark _)) (pss_cons (ps_asg (pe_ix Fx.ix_L (Fx.pe_fldK (K := K) rfl (pv 0) rfl) (pv 2) (fun _ _ => rfl)) (pg_sub (Fx.pe_fldK (K := K) rfl (pv 0) rfl) (pv 1) set_list))
        (pss_one (ps_asg (pv 1) (pg_sub (Fx.pe_fldK (K := K) rfl (pv 0) rfl) (pv 2) set_list)))) pss_nil))))))))), ?_⟩
    obtain ⟨x, A, t, P, v, w, rfl, L, ok, F, h⟩ := h
    obtain ⟨dx, hx⟩ := L.ins
    refine seqI fun K1 k1 => ?_
    walk_at "rd"
    refine ⟨_, _, hx, rfl, x, A, t, v, rfl, L, ok, ?_⟩
    rcases h with ⟨i, h, rfl, rfl, hi, hh, q1, q2⟩ | h | ⟨i, rfl, hi, hb, he⟩
    · refine .inl ⟨i, rfl, hi, fun H1 s1 => k1 _ _ ?_⟩
      clear k1
      refine seqI fun K1 k1 => ?_
      walk_at "rd"
      refine ⟨_, _, s1 _ _ hx, rfl, x, A, t, _, rfl, L.same s1, ok, .inl ⟨h, rfl, hh, fun H2 s2 => k1 _ _ ?_⟩⟩
      clear k1
      have L2 := (L.same s1).same s2
      have hx2 := s2 _ _ (s1 _ _ hx)
      refine seqI fun K1 k1 => ?_
      refine ifI fun A2 B2 ka kb => ?_
      have s12 := s1.trans s2
      walk_at "rd"
      by_cases i0 : i = 0
      · rw [if_pos (by omega)]
        refine ka _ ?_
        walk_at "rd"
        exact q1 (by simp [stays, i0]) H2 s12
      rw [if_neg (by omega)]
      by_cases ih : i = h
      · rw [if_pos (by omega)]
        refine ka _ ?_
        walk_at "rd"
        exact q1 (by rw [stays, decide_eq_true ih, Bool.or_true, Bool.true_or]) H2 s12
      rw [if_neg (by omega)]
      refine ⟨_, _, hx2, rfl, x, A, t, _, _, rfl, L2, ok, ⟨F.h0, F.rk⟩, .inl ⟨i, h, rfl, rfl, hi, hh, fun H3 s3 => ⟨_, rfl, ?_⟩⟩⟩
      have s13 := s12.trans s3
      have L3 := L2.same s3
      have hx3 := s3 _ _ hx2
      cases no : inside t.hol i t.n (t.hol.getD h 0) with
      | true =>
        rw [if_pos rfl]
        refine ka _ ?_
        walk_at "rd"
        exact q1 (by rw [stays, no, Bool.or_true]) H3 s13
      | false =>
      rw [if_neg (by decide)]
      refine kb _ (k1 _ _ ?_)
      have q2 := q2 (by rw [stays, no, decide_eq_false i0, decide_eq_false ih]; rfl)
      clear ka kb k1 q1 L L2 hx hx2 s1 s2 s3 s12
      have ho : t.hol.getD i 0 ≤ t.n := getD_le ok.vh
      have hio : i ∈ P.getD (t.hol.getD i 0) [] := (F.mem _ i ho).mpr ⟨by omega, hi, rfl⟩
      refine seqI fun K1 k1 => ?_
      walk_at "rd"
      refine ⟨_, _, _, hx3, T.cl_Tree, T.n_Tree_holders, _, rfl, _, rfl, _, L3.hol, _, ni_at (by rw [ok.lh]; omega), k1 _ _ ?_⟩
      clear k1
      generalize eo : t.hol.getD i 0 = o at ho hio
      refine seqI fun K1 k1 => ?_
      have fin : ∀ (at_ : Option V) (b1 f1 : List Nat) (H4 : Hp), Cut t P i b1 f1 → Kf A.fp H H4 → TreeAt K H4 x A ⟨t.hol, b1, f1, t.mks⟩ → K1 [some (.ref x), some (.int i), some (.int h), some (.int o), at_] H4 := by
        intro at_ b1 f1 H4 C kf L4
        refine k1 _ _ ?_
        clear k1
        obtain ⟨dx4, hx4⟩ := L4.ins
        have L5 := L4.sHol (l := t.hol.set i h) (List.length_set ..)
        obtain ⟨dx5, hx5⟩ := L5.ins
        have L6 := L5.sBes (b1.set i 0)
        obtain ⟨dx6, hx6⟩ := L6.ins
        have k6 := (kf.upd (.inl rfl) (.lst (ni (t.hol.set i h)))).upd (D := A.bes) (.inr (.inl rfl)) (.lst (ni (b1.set i 0)))
        have M := moved_of ok F (by omega) hi hh ih no C
        walk_at "rd"
        refine ⟨_, _, _, hx4, T.cl_Tree, T.n_Tree_holders, _, rfl, _, rfl, _, L4.hol, i, ix_ni (by rw [ok.lh]; omega), ?_⟩
        rw [ni_set]
        refine ⟨_, _, _, hx5, T.cl_Tree, T.n_Tree_besides, _, rfl, _, rfl, _, L5.bes, i, ix_ni (by rw [C.lb]; omega), ?_⟩
        rw [show (V.int 0) = .int ((0 : Nat) : Int) from rfl, ni_set]
        by_cases h0 : h = 0
        · rw [if_pos (by omega)]
          rw [if_pos h0, if_pos h0] at M
          exact q2 _ _ k6 M L6
        · rw [if_neg (by omega)]
          rw [if_neg h0, if_neg h0] at M
          refine ⟨_, _, _, hx6, T.cl_Tree, T.n_Tree_firsts, _, rfl, _, rfl, _, L6.fir, _, ni_at (by rw [C.lf]; omega), ?_⟩
          have L7 := L6.sBes (b1.set i (f1.getD h 0))
          obtain ⟨dx7, hx7⟩ := L7.ins
          have L8 := L7.sFir (f1.set h i)
          have k8 := (k6.upd (D := A.bes) (.inr (.inl rfl)) (.lst (ni (b1.set i (f1.getD h 0))))).upd (D := A.fir) (.inr (.inr (.inl rfl))) (.lst (ni (f1.set h i)))
          refine ⟨_, _, _, hx6, T.cl_Tree, T.n_Tree_besides, _, rfl, _, rfl, _, L6.bes, i, ix_ni (by rw [List.length_set, C.lb]; omega), ?_⟩
          rw [ni_set, List.set_set]
          refine ⟨_, _, _, hx7, T.cl_Tree, T.n_Tree_firsts, _, rfl, _, rfl, _, L7.fir, h, ix_ni (by rw [C.lf]; omega), ?_⟩
          rw [ni_set]
          exact q2 _ _ k8 M L8
      clear k1
      refine ifI fun A2 B2 ka kb => ?_
      walk_at "rd"
      by_cases o0 : o = 0
      · rw [if_pos (by omega)]
        refine kb _ ?_
        clear ka kb
        walk_at "rd"
        exact fin none t.bes t.fir H3 (cut_root ok F (by rw [eo, o0])) (.of s13) L3
      rw [if_neg (by omega)]
      refine ka _ ?_
      clear ka kb
      refine ifI fun A2 B2 ka kb => ?_
      walk_at "rd"
      refine ⟨_, _, _, hx3, T.cl_Tree, T.n_Tree_firsts, _, rfl, _, rfl, _, L3.fir, _, ni_at (by rw [ok.lf]; omega), rfl, ?_⟩
      obtain ⟨a, c, eP⟩ := List.append_of_mem hio
      have fo := F.ch o (by omega) ho
      rw [eP] at fo
      cases a with
      | nil =>
        rw [if_pos (by rw [fo.1])]
        refine ka _ ?_
        clear ka kb
        walk_at "rd"
        refine ⟨_, _, _, hx3, T.cl_Tree, T.n_Tree_besides, _, rfl, _, rfl, _, L3.bes, _, ni_at (by rw [ok.lb]; omega), ?_⟩
        refine ⟨_, _, _, hx3, T.cl_Tree, T.n_Tree_firsts, _, rfl, _, rfl, _, L3.fir, o, ix_ni (by rw [ok.lf]; omega), ?_⟩
        rw [ni_set]
        exact fin none t.bes _ _ (cut_first ok F eo (by omega) ho eP) (Kf.upd (.of s13) (.inr (.inr (.inl rfl))) _) (L3.sFir _)
      | cons q a =>
        have nd := nodup_row F o
        rw [eP] at nd
        have qi : q ≠ i := fun e => (List.nodup_cons.mp nd).1 (by rw [e]; exact List.mem_append_right _ List.mem_cons_self)
        rw [if_neg (fun z => qi (by have := V.int.inj z; rw [← fo.1]; omega))]
        refine kb _ ?_
        clear ka kb
        refine seqI fun K1 k1 => ?_
        walk_at "rd"
        refine ⟨_, _, _, hx3, T.cl_Tree, T.n_Tree_firsts, _, rfl, _, rfl, _, L3.fir, _, ni_at (by rw [ok.lf]; omega), k1 _ _ ?_⟩
        clear k1
        rw [fo.1]
        refine seqI fun K1 k1 => ?_
        refine whileF (fun m σ H' => ∃ (d e : List Nat) (p : Nat), q :: a = d ++ p :: e ∧ σ = [some (.ref x), some (.int i), some (.int h), some (.int o), some (.int p)] ∧ H' = H3 ∧ m = e.length) a.length ⟨[], a, q, rfl, rfl, rfl, rfl⟩ ?_
        rintro m σ H' ⟨d, e, p, ed, rfl, rfl, rfl⟩ A2 B2 ka kb
        have eP2 : P.getD o [] = d ++ p :: (e ++ i :: c) := by
          rw [eP, ed]
          simp
        have fo2 : Chain t.bes p (p :: (e ++ i :: c)) := by
          rw [ed] at fo
          rw [show d ++ p :: e ++ i :: c = d ++ p :: (e ++ i :: c) by simp] at fo
          exact chain_at fo
        have hp : p ≤ t.n := ((F.mem o p ho).mp (by rw [eP2]; exact List.mem_append_right _ List.mem_cons_self)).2.1
        walk_at "rd"
        refine ⟨_, _, _, hx3, T.cl_Tree, T.n_Tree_besides, _, rfl, _, rfl, _, L3.bes, _, ni_at (by rw [ok.lb]; omega), rfl, ?_⟩
        cases e with
        | nil =>
          rw [if_pos (by rw [fo2.2.2.1])]
          refine kb _ (k1 _ _ ?_)
          clear ka kb k1
          walk_at "rd"
          refine ⟨_, _, _, hx3, T.cl_Tree, T.n_Tree_besides, _, rfl, _, rfl, _, L3.bes, _, ni_at (by rw [ok.lb]; omega), ?_⟩
          refine ⟨_, _, _, hx3, T.cl_Tree, T.n_Tree_besides, _, rfl, _, rfl, _, L3.bes, p, ix_ni (by rw [ok.lb]; omega), ?_⟩
          rw [ni_set]
          exact fin _ _ t.fir _ (cut_later ok F eo (by omega) ho eP2) (Kf.upd (.of s13) (.inr (.inl rfl)) _) (L3.sBes _)
        | cons p2 e =>
          have hn : p2 ≠ i := fun z => by
            have nd2 := nodup_row F o
            rw [eP2] at nd2
            have := (List.nodup_append.mp nd2).2.1
            have := (List.nodup_cons.mp this).2
            exact (List.nodup_cons.mp this).1 (by rw [z]; exact List.mem_append_right _ List.mem_cons_self)
          have e2 : t.bes.getD p 0 = p2 := fo2.2.2.1
          rw [if_neg (fun z => hn (by have := V.int.inj z; omega))]
          refine ka _ ?_
          clear ka kb k1
          walk_at "rd"
          exact ⟨_, _, _, hx3, T.cl_Tree, T.n_Tree_besides, _, rfl, _, rfl, _, L3.bes, _, ni_at (by rw [ok.lb]; omega), _, Nat.lt_succ_self _, d ++ [p], e, p2, by rw [ed]; simp, by rw [e2], rfl⟩
    · exact .inr h
    · refine .inl ⟨i, rfl, hi, fun H1 s1 => k1 _ _ ?_⟩
      clear k1
      refine seqI fun K1 k1 => ?_
      walk_at "rd"
      exact ⟨_, _, s1 _ _ hx, rfl, x, A, t, _, rfl, L.same s1, ok, .inr ⟨hb.same s1, fun d H' s' nd hd => he d H' (s1.trans s') (s1.free nd) hd⟩⟩
end
section
variable {P : Program} {w : World} {K : PySem.W.Frag} {mg : Str → Option Value} {base : Heap}
theorem ok_Tree_MU_getitemU {f0 : Addr} {fd : FuncData} (F : FunD K "__getitem__" "Tree.__getitem__" (defArgs s_Tree_MU_getitemU) (defBody s_Tree_MU_getitemU) (defScope s_Tree_MU_getitemU) [] [] f0 fd) (M : Meth K (He.ga K "Tree") "__getitem__" f0) (T : Tx P K mg) (C_Tree_M_check_thing : CalM P w K mg base (L2.CX P w) 3 (He.ga K "Tree") "check_thing" ["self", "thing"] (spChk K))  : CalM P w K mg base (L2.CX P w) 4 (He.ga K "Tree") "__getitem__" ["self", "thing"] (spNum K (fun t i => t.hol.getD i 0) fun _ => True) := by
  refine ⟨f0, fd, M, F.bindsN bn_Tree_MU_getitemU, okX F sc_Tree_MU_getitemU (fun vs H Q E h => ?_) (fun f cdv A outer s H vs Q E hr h => ?_)⟩
  · first | (obtain ⟨rfl, _⟩ := h; rfl) | (obtain ⟨_, rfl, _⟩ := h; rfl) | (obtain ⟨_, _, rfl, _⟩ := h; rfl) | (obtain ⟨_, _, _, rfl, _⟩ := h; rfl) | (obtain ⟨_, _, _, _, rfl, _⟩ := h; rfl) | (obtain ⟨_, _, _, _, _, rfl, _⟩ := h; rfl) | (obtain ⟨_, _, _, _, _, _, rfl, _⟩ := h; rfl) | (obtain ⟨_, _, _, _, _, _, _, rfl, _⟩ := h; rfl) | (obtain ⟨_, _, _, _, _, _, _, _, rfl, _⟩ := h; rfl) | (obtain ⟨_, _, _, _, _, _, _, _, _, rfl, _⟩ := h; rfl) | (obtain ⟨_, _, _, _, _, _, _, _, _, _, rfl, _⟩ := h; rfl) | (obtain ⟨_, _, _, _, _, _, _, _, _, _, _, rfl, _⟩ := h; rfl) | (obtain ⟨_, _, _, _, _, _, _, _, _, _, _, _, rfl, _⟩ := h; rfl)
  · skip
    obtain ⟨f_Tree_M_check_thing, fd_Tree_M_check_thing, m_Tree_M_check_thing, b_Tree_M_check_thing, G_Tree_M_check_thing⟩ := C_Tree_M_check_thing.ex
    refine ⟨_, (pss_cons (ps_expr (pe_meth (pv 0) T.cl_Tree m_Tree_M_check_thing G_Tree_M_check_thing (hr.mono (by decide)) b_Tree_M_check_thing .nil (passes_call (takes_of rfl rfl rfl rfl) (fun _ _ _ _ z => z)) (Fx.pa_c (pv 1) pa_nil)))
        (pss_one (ps_ret (pe_ix Fx.ix_L (Fx.pe_fldK (K := K) rfl (pv 0) rfl) (pv 1) (fun _ _ => rfl))))), ?_⟩
    obtain ⟨x, A, t, v, rfl, L, ok, _, h⟩ := h
    obtain ⟨dx, hx⟩ := L.ins
    refine seqI fun K1 k1 => ?_
    walk_at "rd"
    refine ⟨_, _, hx, rfl, x, A, t, v, rfl, L, ok, ?_⟩
    rcases h with ⟨i, rfl, hi, q⟩ | h
    · refine .inl ⟨i, rfl, hi, fun H1 s1 => k1 _ _ ?_⟩
      clear k1
      walk_at "rd"
      exact ⟨_, _, _, s1 _ _ hx, T.cl_Tree, T.n_Tree_holders, _, rfl, _, rfl, _, (L.same s1).hol, _, ni_at (by rw [ok.lh]; omega), q H1 s1⟩
    · exact .inr h
end
section
variable {P : Program} {w : World} {K : PySem.W.Frag} {mg : Str → Option Value} {base : Heap}
theorem ok_Tree_MU_setitemU {f0 : Addr} {fd : FuncData} (F : FunD K "__setitem__" "Tree.__setitem__" (defArgs s_Tree_MU_setitemU) (defBody s_Tree_MU_setitemU) (defScope s_Tree_MU_setitemU) [] [] f0 fd) (M : Meth K (He.ga K "Tree") "__setitem__" f0) (T : Tx P K mg) (C_Tree_M_move : CalM P w K mg base (L2.CX P w) 5 (He.ga K "Tree") "move" ["self", "thing", "holder"] (spMove K))  : CalM P w K mg base (L2.CX P w) 6 (He.ga K "Tree") "__setitem__" ["self", "thing", "holder"] (spMove K) := by
  refine ⟨f0, fd, M, F.bindsN bn_Tree_MU_setitemU, okX F sc_Tree_MU_setitemU (fun vs H Q E h => ?_) (fun f cdv A outer s H vs Q E hr h => ?_)⟩
  · first | (obtain ⟨rfl, _⟩ := h; rfl) | (obtain ⟨_, rfl, _⟩ := h; rfl) | (obtain ⟨_, _, rfl, _⟩ := h; rfl) | (obtain ⟨_, _, _, rfl, _⟩ := h; rfl) | (obtain ⟨_, _, _, _, rfl, _⟩ := h; rfl) | (obtain ⟨_, _, _, _, _, rfl, _⟩ := h; rfl) | (obtain ⟨_, _, _, _, _, _, rfl, _⟩ := h; rfl) | (obtain ⟨_, _, _, _, _, _, _, rfl, _⟩ := h; rfl) | (obtain ⟨_, _, _, _, _, _, _, _, rfl, _⟩ := h; rfl) | (obtain ⟨_, _, _, _, _, _, _, _, _, rfl, _⟩ := h; rfl) | (obtain ⟨_, _, _, _, _, _, _, _, _, _, rfl, _⟩ := h; rfl) | (obtain ⟨_, _, _, _, _, _, _, _, _, _, _, rfl, _⟩ := h; rfl) | (obtain ⟨_, _, _, _, _, _, _, _, _, _, _, _, rfl, _⟩ := h; rfl)
  · skip
    obtain ⟨f_Tree_M_move, fd_Tree_M_move, m_Tree_M_move, b_Tree_M_move, G_Tree_M_move⟩ := C_Tree_M_move.ex
    refine ⟨_, (pss_one (ps_expr (pe_meth (pv 0) T.cl_Tree m_Tree_M_move G_Tree_M_move (hr.mono (by decide)) b_Tree_M_move .nil (passes_call (takes_of rfl rfl rfl rfl) (fun _ _ _ _ z => z)) (Fx.pa_c (pv 1) (Fx.pa_c (pv 2) pa_nil))))), ?_⟩
    obtain ⟨x, A, t, P, v, w, rfl, L, ok, F, h⟩ := h
    obtain ⟨dx, hx⟩ := L.ins
    walk_at "rd"
    exact ⟨_, _, hx, rfl, x, A, t, P, v, w, rfl, L, ok, F, h⟩
end
section
variable {P : Program} {w : World} {K : PySem.W.Frag} {mg : Str → Option Value} {base : Heap}
theorem ok_Tree_MU_lenU {f0 : Addr} {fd : FuncData} (F : FunD K "__len__" "Tree.__len__" (defArgs s_Tree_MU_lenU) (defBody s_Tree_MU_lenU) (defScope s_Tree_MU_lenU) [] [] f0 fd) (M : Meth K (He.ga K "Tree") "__len__" f0) (T : Tx P K mg)   : CalM P w K mg base CX0 1 (He.ga K "Tree") "__len__" ["self"] (spLen K) := by
  refine ⟨f0, fd, M, F.bindsN bn_Tree_MU_lenU, ok0 F sc_Tree_MU_lenU (fun vs H Q E h => ?_) (fun f cdv A outer s H vs Q E hr h => ?_)⟩
  · first | (obtain ⟨rfl, _⟩ := h; rfl) | (obtain ⟨_, rfl, _⟩ := h; rfl) | (obtain ⟨_, _, rfl, _⟩ := h; rfl) | (obtain ⟨_, _, _, rfl, _⟩ := h; rfl) | (obtain ⟨_, _, _, _, rfl, _⟩ := h; rfl) | (obtain ⟨_, _, _, _, _, rfl, _⟩ := h; rfl) | (obtain ⟨_, _, _, _, _, _, rfl, _⟩ := h; rfl) | (obtain ⟨_, _, _, _, _, _, _, rfl, _⟩ := h; rfl) | (obtain ⟨_, _, _, _, _, _, _, _, rfl, _⟩ := h; rfl) | (obtain ⟨_, _, _, _, _, _, _, _, _, rfl, _⟩ := h; rfl) | (obtain ⟨_, _, _, _, _, _, _, _, _, _, rfl, _⟩ := h; rfl) | (obtain ⟨_, _, _, _, _, _, _, _, _, _, _, rfl, _⟩ := h; rfl) | (obtain ⟨_, _, _, _, _, _, _, _, _, _, _, _, rfl, _⟩ := h; rfl)
  · skip
    refine ⟨_, (pss_one (ps_ret (Fx.pe_cB Fx.len_L T.b_len (by decide +kernel) (Fx.pa_c (pe_slice Fx.sl_L (Fx.pe_fldK (K := K) rfl (pv 0) rfl) (po_some pe_int) po_none) pa_nil)))), ?_⟩
    obtain ⟨x, A, t, rfl, L, ok, h⟩ := h
    obtain ⟨dx, hx⟩ := L.ins
    walk_at "rd"
    refine ⟨_, _, _, hx, T.cl_Tree, T.n_Tree_holders, _, rfl, _, rfl, _, L.hol, fun p np => ?_⟩
    have e : ((cutV (ni t.hol) (some 1) none).length : Int) = (t.n : Nat) := by
      rw [show (1 : Int) = ((1 : Nat) : Int) from rfl, cutV_lo, List.length_drop, ni_len, ok.lh]
      omega
    rw [e]
    exact h _ (same_new np)
end
section
variable {P : Program} {w : World} {K : PySem.W.Frag} {mg : Str → Option Value} {base : Heap}
theorem ok_Tree_MU_containsU {f0 : Addr} {fd : FuncData} (F : FunD K "__contains__" "Tree.__contains__" (defArgs s_Tree_MU_containsU) (defBody s_Tree_MU_containsU) (defScope s_Tree_MU_containsU) [] [] f0 fd) (M : Meth K (He.ga K "Tree") "__contains__" f0) (T : Tx P K mg) (C_is_integer : Cal P w K mg base CX0 1 "is_integer" ["thing", "low", "high"] spIsI)  : CalM P w K mg base CX0 2 (He.ga K "Tree") "__contains__" ["self", "thing"] (spCont K) := by
  refine ⟨f0, fd, M, F.bindsN bn_Tree_MU_containsU, ok0 F sc_Tree_MU_containsU (fun vs H Q E h => ?_) (fun f cdv A outer s H vs Q E hr h => ?_)⟩
  · first | (obtain ⟨rfl, _⟩ := h; rfl) | (obtain ⟨_, rfl, _⟩ := h; rfl) | (obtain ⟨_, _, rfl, _⟩ := h; rfl) | (obtain ⟨_, _, _, rfl, _⟩ := h; rfl) | (obtain ⟨_, _, _, _, rfl, _⟩ := h; rfl) | (obtain ⟨_, _, _, _, _, rfl, _⟩ := h; rfl) | (obtain ⟨_, _, _, _, _, _, rfl, _⟩ := h; rfl) | (obtain ⟨_, _, _, _, _, _, _, rfl, _⟩ := h; rfl) | (obtain ⟨_, _, _, _, _, _, _, _, rfl, _⟩ := h; rfl) | (obtain ⟨_, _, _, _, _, _, _, _, _, rfl, _⟩ := h; rfl) | (obtain ⟨_, _, _, _, _, _, _, _, _, _, rfl, _⟩ := h; rfl) | (obtain ⟨_, _, _, _, _, _, _, _, _, _, _, rfl, _⟩ := h; rfl) | (obtain ⟨_, _, _, _, _, _, _, _, _, _, _, _, rfl, _⟩ := h; rfl)
  · skip
    refine ⟨_, (pss_one (ps_ret (Fx.pe_cal C_is_integer (hr.mono (by decide)) pass0 (Fx.pa_c (pv 1) (Fx.pa_c pe_int (Fx.pa_c (pe_op op_sub (Fx.pe_cB Fx.len_L T.b_len (by decide +kernel) (Fx.pa_c (Fx.pe_fldK (K := K) rfl (pv 0) rfl) pa_nil)) pe_int) pa_nil)))))), ?_⟩
    obtain ⟨x, A, t, v, rfl, L, ok, h⟩ := h
    obtain ⟨dx, hx⟩ := L.ins
    walk_at "rd"
    refine ⟨_, _, _, hx, T.cl_Tree, T.n_Tree_holders, _, rfl, _, rfl, _, L.hol, ?_⟩
    rw [ok.n_]
    by_cases g : 1 ≤ v ∧ v ≤ (t.n : Nat)
    · rw [decide_eq_true g] at h
      exact ⟨_, _, _, rfl, .inl ⟨v, rfl, g.1, g.2, h⟩⟩
    · rw [decide_eq_false g] at h
      exact ⟨_, _, _, rfl, .inr ⟨.inr ⟨v, rfl, g⟩, h⟩⟩
end
section
variable {P : Program} {w : World} {K : PySem.W.Frag} {mg : Str → Option Value} {base : Heap}
theorem ok_Tree_MU_iterU {f0 : Addr} {fd : FuncData} (F : FunD K "__iter__" "Tree.__iter__" (defArgs s_Tree_MU_iterU) (defBody s_Tree_MU_iterU) (defScope s_Tree_MU_iterU) [] [] f0 fd) (M : Meth K (He.ga K "Tree") "__iter__" f0) (T : Tx P K mg)   : CalM P w K mg base CX0 1 (He.ga K "Tree") "__iter__" ["self"] (spIter K) := by
  refine ⟨f0, fd, M, F.bindsN bn_Tree_MU_iterU, ok0 F sc_Tree_MU_iterU (fun vs H Q E h => ?_) (fun f cdv A outer s H vs Q E hr h => ?_)⟩
  · first | (obtain ⟨rfl, _⟩ := h; rfl) | (obtain ⟨_, rfl, _⟩ := h; rfl) | (obtain ⟨_, _, rfl, _⟩ := h; rfl) | (obtain ⟨_, _, _, rfl, _⟩ := h; rfl) | (obtain ⟨_, _, _, _, rfl, _⟩ := h; rfl) | (obtain ⟨_, _, _, _, _, rfl, _⟩ := h; rfl) | (obtain ⟨_, _, _, _, _, _, rfl, _⟩ := h; rfl) | (obtain ⟨_, _, _, _, _, _, _, rfl, _⟩ := h; rfl) | (obtain ⟨_, _, _, _, _, _, _, _, rfl, _⟩ := h; rfl) | (obtain ⟨_, _, _, _, _, _, _, _, _, rfl, _⟩ := h; rfl) | (obtain ⟨_, _, _, _, _, _, _, _, _, _, rfl, _⟩ := h; rfl) | (obtain ⟨_, _, _, _, _, _, _, _, _, _, _, rfl, _⟩ := h; rfl) | (obtain ⟨_, _, _, _, _, _, _, _, _, _, _, _, rfl, _⟩ := h; rfl)
  · skip
    refine ⟨_, (pss_one (ps_ret (Fx.pe_cB Fx.iter_L T.b_iter (by decide +kernel) (Fx.pa_c (Fx.pe_fldK (K := K) rfl (pv 0) rfl) pa_nil)))), ?_⟩
    obtain ⟨x, A, t, rfl, L, h⟩ := h
    obtain ⟨dx, hx⟩ := L.ins
    walk_at "rd"
    exact ⟨_, _, _, hx, T.cl_Tree, T.n_Tree_numbers_now, _, rfl, _, rfl, _, L.num, h⟩
end
section
variable {P : Program} {w : World} {K : PySem.W.Frag} {mg : Str → Option Value} {base : Heap}
theorem ok_Tree_M_told {f0 : Addr} {fd : FuncData} (F : FunD K "told" "Tree.told" (defArgs s_Tree_M_told) (defBody s_Tree_M_told) (defScope s_Tree_M_told) [] [] f0 fd) (M : Meth K (He.ga K "Tree") "told" f0) (T : Tx P K mg)   : CalM P w K mg base CX0 1 (He.ga K "Tree") "told" ["self"] (spTold K) := by
  refine ⟨f0, fd, M, F.bindsN bn_Tree_M_told, ok0 F sc_Tree_M_told (fun vs H Q E h => ?_) (fun f cdv A outer s H vs Q E hr h => ?_)⟩
  · first | (obtain ⟨rfl, _⟩ := h; rfl) | (obtain ⟨_, rfl, _⟩ := h; rfl) | (obtain ⟨_, _, rfl, _⟩ := h; rfl) | (obtain ⟨_, _, _, rfl, _⟩ := h; rfl) | (obtain ⟨_, _, _, _, rfl, _⟩ := h; rfl) | (obtain ⟨_, _, _, _, _, rfl, _⟩ := h; rfl) | (obtain ⟨_, _, _, _, _, _, rfl, _⟩ := h; rfl) | (obtain ⟨_, _, _, _, _, _, _, rfl, _⟩ := h; rfl) | (obtain ⟨_, _, _, _, _, _, _, _, rfl, _⟩ := h; rfl) | (obtain ⟨_, _, _, _, _, _, _, _, _, rfl, _⟩ := h; rfl) | (obtain ⟨_, _, _, _, _, _, _, _, _, _, rfl, _⟩ := h; rfl) | (obtain ⟨_, _, _, _, _, _, _, _, _, _, _, rfl, _⟩ := h; rfl) | (obtain ⟨_, _, _, _, _, _, _, _, _, _, _, _, rfl, _⟩ := h; rfl)
  · skip
    refine ⟨_, (pss_one (ps_ret (Fx.pe_cTy Fx.tup_L T.b_tuple (by decide +kernel) (Fx.pa_c (pe_lc (own := [("thing", 1)]) rfl sc_Tree_M_told.nd (pi_range2 rfl T.b_range (Fx.pa_c pe_int (Fx.pa_c (Fx.pe_cB Fx.len_L T.b_len (by decide +kernel) (Fx.pa_c (Fx.pe_fldK (K := K) rfl (pv 0) rfl) pa_nil)) pa_nil))) (blkOk_by (N := N_Tree_M_told) (sc := defScope s_Tree_M_told) (by decide +kernel)) (fun _ _ _ _ _ => (pg_name (i := 1) sc_Tree_M_told.nd rfl (Or.inl rfl))) (fun _ _ _ _ _ => pts_nil) (fun _ _ _ _ _ => (pe_tup (Fx.pa_c (Fx.pe_cTy Fx.tup_L T.b_tuple (by decide +kernel) (Fx.pa_c (Fx.pe_cB (call_sortedDI rfl) T.b_sorted (by decide +kernel) (Fx.pa_c (pe_ix Fx.ix_L (Fx.pe_fldK (K := K) rfl (pv 0) rfl) (pv 1) (fun _ _ => rfl)) pa_nil)) pa_nil)) (Fx.pa_c (pe_ix Fx.ix_L (Fx.pe_fldK (K := K) rfl (pv 0) rfl) (pv 1) (fun _ _ => rfl)) (Fx.pa_c (pe_ix Fx.ix_L (Fx.pe_fldK (K := K) rfl (pv 0) rfl) (pv 1) (fun _ _ => rfl)) (Fx.pa_c (pe_ix Fx.ix_L (Fx.pe_fldK (K := K) rfl (pv 0) rfl) (pv 1) (fun _ _ => rfl)) pa_nil))))))) pa_nil)))), ?_⟩
    obtain ⟨x, A, t, rfl, L, ok, q⟩ := h
    obtain ⟨dx, hx⟩ := L.ins
    walk_at "rd"
    generalize hte : tTup _ = te
    generalize hg : gName 1 = g
    generalize htt : tYes = tt
    unfold tLc
    walk_at "rd"
    have en : (((ni t.hol).length : Nat) : Int) - 1 = (t.n : Nat) := ok.n_
    refine ⟨_, _, _, hx, T.cl_Tree, T.n_Tree_holders, _, rfl, _, rfl, _, L.hol, by decide, by decide, sz0 ?_, sz1 ?_, fun D nD => ?_⟩
    · rw [ni_len, ok.lh]
      have := ok.n60
      omega
    · rw [ni_len, ok.lh]
      have := ok.n60
      omega
    rw [ok.n_, Int.toNat_natCast]
    have hxD := none_ne hx nD
    refine lc_range (lo := 1) (n := t.n) (g := g) (tt := tt) (te := te) (vs := [1]) (σ := [some (.ref x), none]) (fun i H' => ∃ as : List Addr, as.length = i ∧ H' D = some (.lst (as.map V.ref)) ∧ (∀ (j : Nat) (a : Addr), as[j]? = some a → RowAt H' a (rowT t (j + 1))) ∧ Same H H') ⟨[], rfl, upd_same, fun j a e => (by cases e), same_new nD⟩ ?_ ?_
    · rintro i H1 hi ⟨as, la, hD, hr, s1⟩
      have L1 := L.same s1
      have hi2 : i + 1 < t.mks.length := by rw [ok.lm]; omega
      have hd : i + 1 < A.ds.length := by rw [L.dl]; exact hi2
      have ei : (1 : Int) + (i : Nat) = ((i + 1 : Nat) : Int) := by omega
      rw [ei, ← hte, ← hg, ← htt]
      refine ⟨rfl, ?_⟩
      walk_at "rd"
      refine ⟨_, _, _, s1 _ _ hx, T.cl_Tree, T.n_Tree_mark_rows, _, rfl, _, rfl, _, L1.mr, _, atI_get (i := i + 1) (by rw [List.getElem?_map, List.getElem?_eq_getElem hd]; rfl), _, rfl, _, .inl (L1.ds (i + 1) _ _ (List.getElem?_eq_getElem hd) (List.getElem?_eq_getElem hi2)), ?_⟩
      have hnd := ok.vm _ (List.getElem_mem hi2)
      refine ⟨(t.mks[i + 1]).map fun n => ((n : Nat) : Int), by rw [mkv, List.map_map, List.map_map]; rfl, ?_, fun ys S perm pw nS l nl => ?_⟩
      · rw [List.length_map]
        have := nodup_lt hnd.1 hnd.2
        omega
      have eys := srt_int perm pw
      have ev : ys.map V.int = ni (srtN t.mks[i + 1]) := by
        rw [eys, List.map_map]
        rfl
      rw [ev] at nl ⊢
      have s2 := same_new (o := .lst (ni (srtN t.mks[i + 1]))) nS
      have s3 := same_new (o := .tup (ni (srtN t.mks[i + 1]))) nl
      have hl3 : (upd (upd H1 S (.lst (ni (srtN t.mks[i + 1])))) l (.tup (ni (srtN t.mks[i + 1])))) l = some (.tup (ni (srtN t.mks[i + 1]))) := upd_same
      have s13 := s2.trans s3
      generalize (upd (upd H1 S (.lst (ni (srtN t.mks[i + 1])))) l (.tup (ni (srtN t.mks[i + 1])))) = H3 at s13 hl3
      clear nl s2 s3 nS
      have L3 := L1.same s13
      have hx3 := s13 _ _ (s1 _ _ hx)
      refine ⟨_, _, _, hx3, T.cl_Tree, T.n_Tree_holders, _, rfl, _, rfl, _, L3.hol, _, ni_at (by rw [ok.lh]; omega), _, _, _, hx3, T.cl_Tree, T.n_Tree_besides, _, rfl, _, rfl, _, L3.bes, _, ni_at (by rw [ok.lb]; omega), _, _, _, hx3, T.cl_Tree, T.n_Tree_firsts, _, rfl, _, rfl, _, L3.fir, _, ni_at (by rw [ok.lf]; omega), ?_⟩
      refine ⟨by decide, ?_⟩
      have hD3 := s13 _ _ hD
      have hr3 : ∀ (j : Nat) (a : Addr), as[j]? = some a → RowAt H3 a (rowT t (j + 1)) := fun j a e => (hr j a e).same s13
      intro R nR
      generalize e_R : upd H3 R _ = H4
      have s4 := new_s nR e_R
      have hR := new_h e_R
      clear e_R
      have hD4 := s4 _ _ hD3
      have hR4 : RowAt H4 R (rowT t (i + 1)) := ⟨l, hR, by
        have := s4 _ _ hl3
        rw [show (rowT t (i + 1)).1 = srtN t.mks[i + 1] by rw [rowT, List.getD_eq_getElem?_getD, List.getElem?_eq_getElem hi2]; rfl]
        exact this⟩
      refine ⟨_, hD4, ?_, as ++ [R], ?_, ?_, fun j a e => ?_, Same.put ((s1.trans s13).trans s4) nD⟩
      · rw [List.length_map, la]
        have := ok.n60
        exact Nat.lt_of_lt_of_le (by omega : _ < 100) (by decide)
      · rw [List.length_append, la]
        rfl
      · rw [List.map_append]
        rfl
      · by_cases hj : j < as.length
        · rw [List.getElem?_append_left hj] at e
          exact ((hr3 j a e).same s4).put hD4
        · have hj2 := (List.getElem?_eq_some_iff.mp e).1
          rw [List.length_append, List.length_singleton] at hj2
          have ej : j = as.length := by omega
          rw [ej, List.getElem?_append_right (Nat.le_refl _), Nat.sub_self] at e
          cases e
          rw [ej, la]
          exact hR4.put hD4
    · rintro H1 ⟨as, la, hD, hr, s1⟩
      refine ⟨_, hD, fun l nl => q l _ (s1.trans (same_new nl)) (s1.free nl) ⟨as, upd_same, ?_, fun j a r e1 e2 => ?_⟩⟩
      · rw [la, rowsT, List.length_map, List.length_range']
      · have hj := (List.getElem?_eq_some_iff.mp e1).1
        rw [rowsT, List.getElem?_map, List.getElem?_eq_getElem (by rw [List.length_range']; omega), List.getElem_range'] at e2
        cases e2
        have := (hr j a e1).same (same_new (o := .tup (as.map V.ref)) nl)
        rw [show 1 + 1 * j = j + 1 by omega]
        exact this
end
section
variable {P : Program} {w : World} {K : PySem.W.Frag} {mg : Str → Option Value} {base : Heap}
theorem ok_Tree_MU_eqU {f0 : Addr} {fd : FuncData} (F : FunD K "__eq__" "Tree.__eq__" (defArgs s_Tree_MU_eqU) (defBody s_Tree_MU_eqU) (defScope s_Tree_MU_eqU) [] [] f0 fd) (M : Meth K (He.ga K "Tree") "__eq__" f0) (T : Tx P K mg) (C_Tree_M_told : CalM P w K mg base CX0 1 (He.ga K "Tree") "told" ["self"] (spTold K))  : CalM P w K mg base CX0 2 (He.ga K "Tree") "__eq__" ["self", "other"] (spEqT K) := by
  refine ⟨f0, fd, M, F.bindsN bn_Tree_MU_eqU, ok0 F sc_Tree_MU_eqU (fun vs H Q E h => ?_) (fun f cdv A outer s H vs Q E hr h => ?_)⟩
  · first | (obtain ⟨rfl, _⟩ := h; rfl) | (obtain ⟨_, rfl, _⟩ := h; rfl) | (obtain ⟨_, _, rfl, _⟩ := h; rfl) | (obtain ⟨_, _, _, rfl, _⟩ := h; rfl) | (obtain ⟨_, _, _, _, rfl, _⟩ := h; rfl) | (obtain ⟨_, _, _, _, _, rfl, _⟩ := h; rfl) | (obtain ⟨_, _, _, _, _, _, rfl, _⟩ := h; rfl) | (obtain ⟨_, _, _, _, _, _, _, rfl, _⟩ := h; rfl) | (obtain ⟨_, _, _, _, _, _, _, _, rfl, _⟩ := h; rfl) | (obtain ⟨_, _, _, _, _, _, _, _, _, rfl, _⟩ := h; rfl) | (obtain ⟨_, _, _, _, _, _, _, _, _, _, rfl, _⟩ := h; rfl) | (obtain ⟨_, _, _, _, _, _, _, _, _, _, _, rfl, _⟩ := h; rfl) | (obtain ⟨_, _, _, _, _, _, _, _, _, _, _, _, rfl, _⟩ := h; rfl)
  · skip
    obtain ⟨f_Tree_M_told, fd_Tree_M_told, m_Tree_M_told, b_Tree_M_told, G_Tree_M_told⟩ := C_Tree_M_told.ex
    refine ⟨_, (pss_cons (ps_if (pt_not (pt_val (Fx.pe_cB Fx.is_I T.b_isinstance (by decide +kernel) (Fx.pa_c (pv 1) (Fx.pa_c (pe_glob (v := .ref (He.ga K "Tree")) rfl T.g_Tree rfl) pa_nil))))) (pss_one (ps_ret pe_bl)) pss_nil)
        (pss_one (ps_ret (pe_cmpR (op_eqD hr.units) (pe_meth0 (pv 0) T.cl_Tree m_Tree_M_told G_Tree_M_told (hr.mono (by decide)) b_Tree_M_told .nil pass0) (pe_meth0 (pv 1) T.cl_Tree m_Tree_M_told G_Tree_M_told (hr.mono (by decide)) b_Tree_M_told .nil pass0) (nomark _))))), ?_⟩
    obtain ⟨x, y, A, B, t, u, rfl, L, M, ok, ok2, q⟩ := h
    obtain ⟨dx, hx⟩ := L.ins
    obtain ⟨dy, hy⟩ := M.ins
    refine seqI fun K1 k1 => ?_
    refine ifI fun A2 B2 ka kb => ?_
    walk_at "rd"
    have hI := insC_of T.cl_Tree T.i_Tree
    have kT : PySem.W.kitOne K (.ref (He.ga K "Tree")) (.ref (He.ga K "Tree")) = some true := hI.me
    refine ⟨_, _, _, hy, hI, _, rfl, _, kT, ?_⟩
    rw [if_neg (by decide)]
    refine kb _ (k1 _ _ ?_)
    clear ka kb k1
    walk_at "rd"
    refine ⟨_, _, hx, rfl, x, A, t, rfl, L, ok, fun p H1 s1 np td => ⟨_, _, s1 _ _ hy, rfl, y, B, u, rfl, M.same s1, ok2, fun p2 H2 s2 np2 td2 => ?_⟩⟩
    refine ⟨toldD (rowsT t), toldD (rowsT u), (td.same s2).dp, td2.dp, lay_told _, lay_told _, ?_⟩
    rw [eqv_told]
    exact q H2 (s1.trans s2)
end
section
variable {P : Program} {w : World} {K : PySem.W.Frag} {mg : Str → Option Value} {base : Heap}
theorem ok_Tree_M_copy {f0 : Addr} {fd : FuncData} (F : FunD K "copy" "Tree.copy" (defArgs s_Tree_M_copy) (defBody s_Tree_M_copy) (defScope s_Tree_M_copy) [] [] f0 fd) (M : Meth K (He.ga K "Tree") "copy" f0) (T : Tx P K mg) (C_Tree_M_of : CalS P w K mg base (L2.CX P w) 5 (He.ga K "Tree") "of" ["rows"] (spOf K)) (C_Tree_M_told : CalM P w K mg base CX0 1 (He.ga K "Tree") "told" ["self"] (spTold K))  : CalM P w K mg base CX0 6 (He.ga K "Tree") "copy" ["self"] (spCopy K) := by
  refine ⟨f0, fd, M, F.bindsN bn_Tree_M_copy, ok0 F sc_Tree_M_copy (fun vs H Q E h => ?_) (fun f cdv A outer s H vs Q E hr h => ?_)⟩
  · first | (obtain ⟨rfl, _⟩ := h; rfl) | (obtain ⟨_, rfl, _⟩ := h; rfl) | (obtain ⟨_, _, rfl, _⟩ := h; rfl) | (obtain ⟨_, _, _, rfl, _⟩ := h; rfl) | (obtain ⟨_, _, _, _, rfl, _⟩ := h; rfl) | (obtain ⟨_, _, _, _, _, rfl, _⟩ := h; rfl) | (obtain ⟨_, _, _, _, _, _, rfl, _⟩ := h; rfl) | (obtain ⟨_, _, _, _, _, _, _, rfl, _⟩ := h; rfl) | (obtain ⟨_, _, _, _, _, _, _, _, rfl, _⟩ := h; rfl) | (obtain ⟨_, _, _, _, _, _, _, _, _, rfl, _⟩ := h; rfl) | (obtain ⟨_, _, _, _, _, _, _, _, _, _, rfl, _⟩ := h; rfl) | (obtain ⟨_, _, _, _, _, _, _, _, _, _, _, rfl, _⟩ := h; rfl) | (obtain ⟨_, _, _, _, _, _, _, _, _, _, _, _, rfl, _⟩ := h; rfl)
  · skip
    obtain ⟨p_Tree_M_of, f_Tree_M_of, fd_Tree_M_of, m_Tree_M_of, r_Tree_M_of, b_Tree_M_of, G_Tree_M_of⟩ := C_Tree_M_of.ex
    obtain ⟨f_Tree_M_told, fd_Tree_M_told, m_Tree_M_told, b_Tree_M_told, G_Tree_M_told⟩ := C_Tree_M_told.ex
    refine ⟨_, (pss_one (ps_ret (Fx.pe_smeth (pe_glob (v := .ref (He.ga K "Tree")) rfl T.g_Tree rfl) r_Tree_M_of m_Tree_M_of G_Tree_M_of (hr.mono (by decide)) b_Tree_M_of Fx.passX (Fx.pa_c (pe_meth0 (pv 0) T.cl_Tree m_Tree_M_told G_Tree_M_told (hr.mono (by decide)) b_Tree_M_told .nil pass0) pa_nil)))), ?_⟩
    obtain ⟨x, A, t, P, rfl, L, ok, F, m0, q⟩ := h
    obtain ⟨dx, hx⟩ := L.ins
    walk_at "rd"
    obtain ⟨R, ef⟩ := rowsT_ok ok F
    refine ⟨_, _, hx, rfl, x, A, t, rfl, L, ok, fun p H1 s1 np ⟨as, h1, h2, h3⟩ => ⟨p, as, rowsT t, t.hol, t.bes, P, t.n, rfl, .inr h1, h2, h3, R, fun y B H2 s2 fr L2 => ?_⟩⟩
    rw [← ef, rowsT_mks ok m0] at L2
    exact q y B H2 (s1.trans s2) (fun a ha => s1.free (fr a ha)) L2
end
section
variable {P : Program} {w : World} {K : PySem.W.Frag} {mg : Str → Option Value} {base : Heap}
theorem ok__law_bag (S : Src K mg "_law_bag" s__law_bag) (T : Tx P K mg)   : Cal P w K mg base CX0 1 "_law_bag" ["_law_script"] (spBag K) := by
  refine S.cal sc__law_bag bn__law_bag (fun vs H Q E h => ?_) (fun f cdv A outer s H vs Q E hr h => ?_)
  · first | (obtain ⟨rfl, _⟩ := h; rfl) | (obtain ⟨_, rfl, _⟩ := h; rfl) | (obtain ⟨_, _, rfl, _⟩ := h; rfl) | (obtain ⟨_, _, _, rfl, _⟩ := h; rfl) | (obtain ⟨_, _, _, _, rfl, _⟩ := h; rfl) | (obtain ⟨_, _, _, _, _, rfl, _⟩ := h; rfl) | (obtain ⟨_, _, _, _, _, _, rfl, _⟩ := h; rfl) | (obtain ⟨_, _, _, _, _, _, _, rfl, _⟩ := h; rfl) | (obtain ⟨_, _, _, _, _, _, _, _, rfl, _⟩ := h; rfl) | (obtain ⟨_, _, _, _, _, _, _, _, _, rfl, _⟩ := h; rfl) | (obtain ⟨_, _, _, _, _, _, _, _, _, _, rfl, _⟩ := h; rfl) | (obtain ⟨_, _, _, _, _, _, _, _, _, _, _, rfl, _⟩ := h; rfl) | (obtain ⟨_, _, _, _, _, _, _, _, _, _, _, _, rfl, _⟩ := h; rfl)
  · skip
    refine ⟨_, (pss_cons (ps_set (i := 1) sc__law_bag.nd rfl (Or.inl rfl) pe_int)
        (pss_cons (ps_for PassesOwn.never rfl (pi_list (pv 0)) (pg_name (i := 2) sc__law_bag.nd rfl (Or.inl rfl)) (pss_one (ps_set (i := 1) sc__law_bag.nd rfl (Or.inl rfl) (pe_op op_mod (Fx.pe_cTy Fx.int_I T.b_int (by decide +kernel) (Fx.pa_c (pe_op op_add (pe_op op_add (pe_op op_mul (pv 1) pe_int) (pv 2)) pe_int) pa_nil)) pe_int))))
        (pss_one (ps_ret (pe_disp (pps_cons pe_str (pe_lc (own := [("_law_cell", 2)]) rfl sc__law_bag.nd (pi_list (pv 0)) (blkOk_by (N := N__law_bag) (sc := defScope s__law_bag) (by decide +kernel)) (fun _ _ _ _ _ => (pg_name (i := 2) sc__law_bag.nd rfl (Or.inl rfl))) (fun _ _ _ _ _ => pts_nil) (fun _ _ _ _ _ => (pv 2))) (pps_cons pe_str pe_int (pps_cons pe_str pe_int (pps_cons pe_str (pv 1) (pps_cons pe_str pe_int pps_nil))))) (by rfl) (by rfl) (fun z => by cases z) (by decide)))))), ?_⟩
    obtain ⟨a, ns, rfl, hS, hlen, q⟩ := h
    refine seqI fun K1 k1 => ?_
    walk_at "rd"
    refine k1 _ _ ?_
    refine seqI fun K2 k2 => ?_
    refine ⟨_, rfl, a, rfl, ⟨_, hS⟩, for_list (K := K) (a := a) (xs := ns.map V.int) (fun i σ H' => ∃ (m : Int) (v : Option V), σ = [some (.ref a), some (.int m), v] ∧ H' = H) ⟨7, none, rfl, rfl⟩ (fun i σ H' _ ⟨_, _, _, e⟩ => by rw [e]; exact hS) ?_ ?_⟩
    · rintro i y σ H' hi ⟨m, v, rfl, rfl⟩
      obtain ⟨z, rfl⟩ : ∃ z, y = V.int z := by
        rw [List.getElem?_map] at hi
        cases e : ns[i]? with
        | none => rw [e] at hi; cases hi
        | some z => rw [e] at hi; exact ⟨z, (Option.some.inj hi).symm⟩
      walk_at "rd"
      exact ⟨.inr ⟨by decide, by decide⟩, by decide⟩
    · rintro σ H' ⟨m, v, rfl, rfl⟩
      refine k2 _ _ ?_
      intro p np
      refine ⟨.ref a, rfl, a, rfl, ⟨_, (same_new np).seq hS⟩, fun D hD => ?_⟩
      have hDp : D ≠ p := fun e => by rw [e, upd_same] at hD; cases hD
      refine lc_list (K := K) (a := a) (xs := ns.map V.int) (fun i H2 => H2 = upd (upd H' p (.dK [])) D (.lst ((ns.map V.int).take i))) rfl (fun i H2 _ e => ?_) ?_ ?_
      · rw [e]
        exact ((same_new np).trans (same_new hD)).seq hS
      · rintro i x H2 hx rfl
        refine ⟨rfl, ?_⟩
        walk_at "rd"
        refine ⟨?_, ?_⟩
        · rw [List.length_take]
          exact Nat.lt_of_le_of_lt (Nat.min_le_right _ _) (by rw [List.length_map]; exact Nat.lt_of_le_of_lt hlen (by decide))
        · rw [upd_upd, List.take_add_one, hx]
          rfl
      · rintro H2 rfl
        simp only [tPairs]
        walk_at "rd"
        have hpD : p ≠ D := fun e => hDp e.symm
        refine ⟨by rw [upd_ne hpD, upd_same], [(.inr "cells", .ref D), (.inr "at", .int 0), (.inr "rest", .int 0), (.inr "mixed", .int m), (.inr "count", .int 0)], rfl, (show 5 ≤ 15 by decide), ?_⟩
        refine q p _ (fun b o e => ?_) np ⟨D, ns, 0, 0, m, 0, upd_same, ?_, by decide⟩
        · rw [upd_ne (ne_of_none e np), upd_ne (ne_of_none (same_new np (o := .dK []) b o e) hD), upd_ne (ne_of_none e np)]
          exact e
        · rw [upd_ne hDp, upd_same, List.take_length]
end
section
variable {P : Program} {w : World} {K : PySem.W.Frag} {mg : Str → Option Value} {base : Heap}
theorem ok__law_pick (S : Src K mg "_law_pick" s__law_pick) (T : Tx P K mg)   : Cal P w K mg base CX0 1 "_law_pick" ["_law_bag_here", "_law_many"] spPick := by
  refine S.cal sc__law_pick bn__law_pick (fun vs H Q E h => ?_) (fun f cdv A outer s H vs Q E hr h => ?_)
  · first | (obtain ⟨rfl, _⟩ := h; rfl) | (obtain ⟨_, rfl, _⟩ := h; rfl) | (obtain ⟨_, _, rfl, _⟩ := h; rfl) | (obtain ⟨_, _, _, rfl, _⟩ := h; rfl) | (obtain ⟨_, _, _, _, rfl, _⟩ := h; rfl) | (obtain ⟨_, _, _, _, _, rfl, _⟩ := h; rfl) | (obtain ⟨_, _, _, _, _, _, rfl, _⟩ := h; rfl) | (obtain ⟨_, _, _, _, _, _, _, rfl, _⟩ := h; rfl) | (obtain ⟨_, _, _, _, _, _, _, _, rfl, _⟩ := h; rfl) | (obtain ⟨_, _, _, _, _, _, _, _, _, rfl, _⟩ := h; rfl) | (obtain ⟨_, _, _, _, _, _, _, _, _, _, rfl, _⟩ := h; rfl) | (obtain ⟨_, _, _, _, _, _, _, _, _, _, _, rfl, _⟩ := h; rfl) | (obtain ⟨_, _, _, _, _, _, _, _, _, _, _, _, rfl, _⟩ := h; rfl)
  · skip
    refine ⟨_, (pss_cons (ps_dput (hu_of hr) (pv 0) pe_str (pe_op op_add (pe_dget (hu_of hr) (pv 0) pe_str (fun _ _ => rfl)) pe_int) rfl)
        (pss_cons (ps_if (pt_cmpR op_gt (pe_dget (hu_of hr) (pv 0) pe_str (fun _ _ => rfl)) pe_int (nomark _)) (pss_cons (ps_set (i := 2) sc__law_pick.nd rfl (Or.inl rfl) (pe_dget (hu_of hr) (pv 0) pe_str (fun _ _ => rfl)))
        (pss_cons (ps_dput (hu_of hr) (pv 0) pe_str (pe_op op_fdiv (pv 2) (pv 1)) rfl)
        (pss_one (ps_ret (pe_op op_mod (Fx.pe_cTy Fx.int_I T.b_int (by decide +kernel) (Fx.pa_c (pv 2) pa_nil)) (pv 1)))))) pss_nil)
        (pss_cons (ps_set (i := 3) sc__law_pick.nd rfl (Or.inl rfl) pe_int)
        (pss_cons (ps_if (pt_cmpR op_lt (pe_dget (hu_of hr) (pv 0) pe_str (fun _ _ => rfl)) (Fx.pe_cB Fx.len_L T.b_len (by decide +kernel) (Fx.pa_c (pe_dget (hu_of hr) (pv 0) pe_str (fun _ _ => rfl)) pa_nil)) (nomark _)) (pss_cons (ps_set (i := 3) sc__law_pick.nd rfl (Or.inl rfl) (pe_ix Fx.ix_L (pe_dget (hu_of hr) (pv 0) pe_str (fun _ _ => rfl)) (pe_dget (hu_of hr) (pv 0) pe_str (fun _ _ => rfl)) (fun _ _ => rfl)))
        (pss_cons (ps_dput (hu_of hr) (pv 0) pe_str (pe_op op_add (pe_dget (hu_of hr) (pv 0) pe_str (fun _ _ => rfl)) pe_int) rfl)
        (pss_one (ps_if (pt_cmpR op_ge (pv 3) (pe_op op_pow pe_int pe_int) (nomark _)) (pss_cons (ps_dput (hu_of hr) (pv 0) pe_str (pe_op op_fdiv (pv 3) (pv 1)) rfl)
        (pss_one (ps_ret (pe_op op_mod (Fx.pe_cTy Fx.int_I T.b_int (by decide +kernel) (Fx.pa_c (pv 3) pa_nil)) (pv 1))))) pss_nil)))) pss_nil)
        (pss_cons (ps_set (i := 2) sc__law_pick.nd rfl (Or.inl rfl) (pe_op op_mod (Fx.pe_cTy Fx.int_I T.b_int (by decide +kernel) (Fx.pa_c (pe_op op_add (pe_op op_add (pe_op op_mul (pv 3) pe_int) (pe_op op_mul (pe_dget (hu_of hr) (pv 0) pe_str (fun _ _ => rfl)) pe_int)) (pe_op op_mul (pe_dget (hu_of hr) (pv 0) pe_str (fun _ _ => rfl)) pe_int)) pa_nil)) pe_int))
        (pss_cons (ps_set (i := 2) sc__law_pick.nd rfl (Or.inl rfl) (pe_op op_mod (Fx.pe_cTy Fx.int_I T.b_int (by decide +kernel) (Fx.pa_c (pe_op op_add (pe_op op_mul (pv 2) pe_int) pe_int) pa_nil)) pe_int))
        (pss_cons (ps_dput (hu_of hr) (pv 0) pe_str (pe_op op_mod (Fx.pe_cTy Fx.int_I T.b_int (by decide +kernel) (Fx.pa_c (pv 2) pa_nil)) pe_int) rfl)
        (pss_one (ps_ret (pe_op op_mod (Fx.pe_cTy Fx.int_I T.b_int (by decide +kernel) (Fx.pa_c (pe_op op_fdiv (pv 2) pe_int) pa_nil)) (pv 1))))))))))), ?_⟩
    obtain ⟨b, many, rfl, ⟨c, ns, a, r, m, n, hb, hc, ha⟩, h0, h1, q⟩ := h
    have hcb : c ≠ b := ne_of hc hb (by intro z; cases z)
    have hu : ∀ o, upd H b o c = some (.lst (ns.map V.int)) := fun o => by rw [upd_ne hcb]; exact hc
    walk_at "rd"
    simp only [dget_s hb, dput_s hb bag_len, dget_su, dput_su bag_len, bag_cells, bag_at, bag_rest, bag_mixed, bag_count, bag_atP, bag_restP, bag_mixedP, bag_countP, Option.some.injEq, exists_eq_left, exists_eq_left', V.int.injEq, V.ref.injEq, HO.lst.injEq, hu]
    have fin : ∀ (x y z u : Int) (n : Int), 0 ≤ n → n < many → 0 ≤ x → Q (.int n) (upd H b (.dK (bagKV c x y z u))) := fun x y z u n g1 g2 g3 =>
      q n _ g1 g2 ⟨fun p o hp e => by rw [upd_ne hp]; exact e, ⟨c, ns, x, y, z, u, upd_same, hu _, g3⟩, fun c' ⟨ns', x', y', z', u', e1, e2, e3⟩ => by
        rw [hb] at e1
        have ec : c = c' := by
          simp only [Option.some.injEq, HO.dK.injEq, bagKV, List.cons.injEq, Prod.mk.injEq, V.ref.injEq, true_and] at e1
          exact e1.1
        subst ec
        exact ⟨ns, x, y, z, u, upd_same, hu _, g3⟩⟩
    have mm : ∀ x : Int, 0 ≤ x % many ∧ x % many < many := fun x => ⟨Int.emod_nonneg _ (by omega), Int.emod_lt_of_pos _ h0⟩
    refine ite_i (fun hr => ⟨⟨h0, h1⟩, h0, fin _ _ _ _ _ (mm _).1 (mm _).2 ha⟩) (fun hr => ?_)
    refine ite_i (fun hl => ?_) (fun hl => ?_)
    · obtain ⟨x, ex⟩ := atI_ok ha hl
      refine ⟨.int x, ex, ?_⟩
      simp only [V.int.injEq, exists_eq_left', exists_eq_left]
      refine ⟨⟨by decide, by decide, by decide⟩, ite_i (fun hx => ⟨⟨h0, h1⟩, h0, fin _ _ _ _ _ (mm _).1 (mm _).2 (by omega)⟩) (fun hx => ?_)⟩
      exact ⟨.inr ⟨by decide, by decide⟩, .inr ⟨by decide, by decide⟩, .inr ⟨by decide, by decide⟩, by decide, .inr ⟨by decide, by decide⟩, by decide, by decide, ⟨by decide, by decide⟩, h0, fin _ _ _ _ _ (mm _).1 (mm _).2 (by omega)⟩
    · exact ⟨.inr ⟨by decide, by decide⟩, .inr ⟨by decide, by decide⟩, .inr ⟨by decide, by decide⟩, by decide, .inr ⟨by decide, by decide⟩, by decide, by decide, ⟨by decide, by decide⟩, h0, fin _ _ _ _ _ (mm _).1 (mm _).2 ha⟩
end
section
variable {P : Program} {w : World} {K : PySem.W.Frag} {mg : Str → Option Value} {base : Heap}
theorem ok__law_choice (S : Src K mg "_law_choice" s__law_choice) (T : Tx P K mg) (C__law_pick : Cal P w K mg base CX0 1 "_law_pick" ["_law_bag_here", "_law_many"] spPick)  : Cal P w K mg base CX0 2 "_law_choice" ["_law_bag_here", "_law_things"] spChoiceL := by
  refine S.cal sc__law_choice bn__law_choice (fun vs H Q E h => ?_) (fun f cdv A outer s H vs Q E hr h => ?_)
  · first | (obtain ⟨rfl, _⟩ := h; rfl) | (obtain ⟨_, rfl, _⟩ := h; rfl) | (obtain ⟨_, _, rfl, _⟩ := h; rfl) | (obtain ⟨_, _, _, rfl, _⟩ := h; rfl) | (obtain ⟨_, _, _, _, rfl, _⟩ := h; rfl) | (obtain ⟨_, _, _, _, _, rfl, _⟩ := h; rfl) | (obtain ⟨_, _, _, _, _, _, rfl, _⟩ := h; rfl) | (obtain ⟨_, _, _, _, _, _, _, rfl, _⟩ := h; rfl) | (obtain ⟨_, _, _, _, _, _, _, _, rfl, _⟩ := h; rfl) | (obtain ⟨_, _, _, _, _, _, _, _, _, rfl, _⟩ := h; rfl) | (obtain ⟨_, _, _, _, _, _, _, _, _, _, rfl, _⟩ := h; rfl) | (obtain ⟨_, _, _, _, _, _, _, _, _, _, _, rfl, _⟩ := h; rfl) | (obtain ⟨_, _, _, _, _, _, _, _, _, _, _, _, rfl, _⟩ := h; rfl)
  · skip
    refine ⟨_, (pss_one (ps_ret (pe_ix Fx.ix_L (pv 1) (Fx.pe_cal C__law_pick (hr.mono (by decide)) pass0 (Fx.pa_c (pv 0) (Fx.pa_c (Fx.pe_cB Fx.len_L T.b_len (by decide +kernel) (Fx.pa_c (pv 1) pa_nil)) pa_nil))) (fun _ _ => rfl)))), ?_⟩
    obtain ⟨b, p, xs, rfl, hB, hp, h0, h1, q⟩ := h
    walk_at "rd"
    simp only [hp, Option.some.injEq, HO.lst.injEq, exists_eq_left']
    refine ⟨b, _, rfl, hB, by omega, by omega, fun n H' n0 n1 kp => ?_⟩
    obtain ⟨v, hv, hm⟩ := atI_mem n0 n1
    exact ⟨n, rfl, _, kp.lst hB hp, v, hv, q v H' hm kp⟩
end
section
variable {P : Program} {w : World} {K : PySem.W.Frag} {mg : Str → Option Value} {base : Heap}
theorem ok__law_one_in (S : Src K mg "_law_one_in" s__law_one_in) (T : Tx P K mg) (C__law_pick : Cal P w K mg base CX0 1 "_law_pick" ["_law_bag_here", "_law_many"] spPick)  : Cal P w K mg base CX0 2 "_law_one_in" ["_law_bag_here", "_law_many"] spOneIn := by
  refine S.cal sc__law_one_in bn__law_one_in (fun vs H Q E h => ?_) (fun f cdv A outer s H vs Q E hr h => ?_)
  · first | (obtain ⟨rfl, _⟩ := h; rfl) | (obtain ⟨_, rfl, _⟩ := h; rfl) | (obtain ⟨_, _, rfl, _⟩ := h; rfl) | (obtain ⟨_, _, _, rfl, _⟩ := h; rfl) | (obtain ⟨_, _, _, _, rfl, _⟩ := h; rfl) | (obtain ⟨_, _, _, _, _, rfl, _⟩ := h; rfl) | (obtain ⟨_, _, _, _, _, _, rfl, _⟩ := h; rfl) | (obtain ⟨_, _, _, _, _, _, _, rfl, _⟩ := h; rfl) | (obtain ⟨_, _, _, _, _, _, _, _, rfl, _⟩ := h; rfl) | (obtain ⟨_, _, _, _, _, _, _, _, _, rfl, _⟩ := h; rfl) | (obtain ⟨_, _, _, _, _, _, _, _, _, _, rfl, _⟩ := h; rfl) | (obtain ⟨_, _, _, _, _, _, _, _, _, _, _, rfl, _⟩ := h; rfl) | (obtain ⟨_, _, _, _, _, _, _, _, _, _, _, _, rfl, _⟩ := h; rfl)
  · skip
    refine ⟨_, (pss_one (ps_ret (pe_cmpR op_eq (Fx.pe_cal C__law_pick (hr.mono (by decide)) pass0 (Fx.pa_c (pv 0) (Fx.pa_c (pv 1) pa_nil))) pe_int (nomark _)))), ?_⟩
    obtain ⟨b, m, rfl, hB, h0, h1, q⟩ := h
    walk_at "rd"
    refine ⟨b, m, rfl, hB, h0, h1, fun n H' n0 n1 kp => ?_⟩
    walk_at "rd"
    exact q _ H' kp
end
section
variable {P : Program} {w : World} {K : PySem.W.Frag} {mg : Str → Option Value} {base : Heap}
theorem ok__law_shuffled (S : Src K mg "_law_shuffled" s__law_shuffled) (T : Tx P K mg) (C__law_pick : Cal P w K mg base CX0 1 "_law_pick" ["_law_bag_here", "_law_many"] spPick)  : Cal P w K mg base CX0 2 "_law_shuffled" ["_law_bag_here", "_law_things"] spShuf := by
  refine S.cal sc__law_shuffled bn__law_shuffled (fun vs H Q E h => ?_) (fun f cdv A outer s H vs Q E hr h => ?_)
  · first | (obtain ⟨rfl, _⟩ := h; rfl) | (obtain ⟨_, rfl, _⟩ := h; rfl) | (obtain ⟨_, _, rfl, _⟩ := h; rfl) | (obtain ⟨_, _, _, rfl, _⟩ := h; rfl) | (obtain ⟨_, _, _, _, rfl, _⟩ := h; rfl) | (obtain ⟨_, _, _, _, _, rfl, _⟩ := h; rfl) | (obtain ⟨_, _, _, _, _, _, rfl, _⟩ := h; rfl) | (obtain ⟨_, _, _, _, _, _, _, rfl, _⟩ := h; rfl) | (obtain ⟨_, _, _, _, _, _, _, _, rfl, _⟩ := h; rfl) | (obtain ⟨_, _, _, _, _, _, _, _, _, rfl, _⟩ := h; rfl) | (obtain ⟨_, _, _, _, _, _, _, _, _, _, rfl, _⟩ := h; rfl) | (obtain ⟨_, _, _, _, _, _, _, _, _, _, _, rfl, _⟩ := h; rfl) | (obtain ⟨_, _, _, _, _, _, _, _, _, _, _, _, rfl, _⟩ := h; rfl)
  · skip
    refine ⟨_, (pss_cons (ps_set (i := 2) sc__law_shuffled.nd rfl (Or.inl rfl) (Fx.pe_cTy Fx.list_L T.b_list (by decide +kernel) (Fx.pa_c (pv 1) pa_nil)))
        (pss_cons (ps_set (i := 3) sc__law_shuffled.nd rfl (Or.inl rfl) (pe_lst pa_nil))
        (pss_cons (ps_for PassesOwn.never rfl (pi_range1 rfl T.b_range (Fx.pa_c (Fx.pe_cB Fx.len_L T.b_len (by decide +kernel) (Fx.pa_c (pv 1) pa_nil)) pa_nil)) (pg_name (i := 4) sc__law_shuffled.nd rfl (Or.inl rfl)) (pss_one (ps_expr (pe_bm PySem.F.plainAttrs_list PySem.F.slot_list_append PySem.F.type_list_append mt_append (pv 3) (Fx.pa_c (pe_bm PySem.F.plainAttrs_list PySem.F.slot_list_pop PySem.F.type_list_pop mt_popAt (pv 2) (Fx.pa_c (Fx.pe_cal C__law_pick (hr.mono (by decide)) pass0 (Fx.pa_c (pv 0) (Fx.pa_c (Fx.pe_cB Fx.len_L T.b_len (by decide +kernel) (Fx.pa_c (pv 2) pa_nil)) pa_nil))) pa_nil)) pa_nil)))))
        (pss_one (ps_ret (pv 3)))))), ?_⟩
    obtain ⟨b, p, xs, rfl, hB, hp, hl, q⟩ := h
    refine seqI fun K1 k1 => ?_
    walk_at "rd"
    refine ⟨_, hp, fun qr nr => k1 _ _ ?_⟩
    clear k1
    have s1 := same_new (o := .lst xs) nr
    have hr1 : (upd H qr (.lst xs)) qr = some (.lst xs) := upd_same
    generalize upd H qr (.lst xs) = H1 at s1 hr1
    refine seqI fun K1 k1 => ?_
    walk_at "rd"
    refine ⟨by decide, fun qw nw => k1 _ _ ?_⟩
    clear k1
    have s2 := s1.trans (same_new (o := .lst []) nw)
    have hr2 := same_new (o := .lst []) nw _ _ hr1
    have hw2 : (upd H1 qw (.lst [])) qw = some (.lst []) := upd_same
    have nw0 := s1.free nw
    have ne : qr ≠ qw := fun e => by rw [e, nw] at hr1; cases hr1
    generalize upd H1 qw (.lst []) = H2 at s2 hr2 hw2
    refine seqI fun K0 k0 => ?_
    refine ⟨_, rfl, p, _, rfl, s2 _ _ hp, _, rfl, by omega, by omega, ?_⟩
    rw [Int.toNat_natCast]
    refine for_range (lo := 0) (n := xs.length) (fun i σ H' => ∃ (v : Option V) (r w : List V), σ = [some (.ref b), some (.ref p), some (.ref qr), some (.ref qw), v] ∧ H' qr = some (.lst r) ∧ H' qw = some (.lst w) ∧ (w ++ r).Perm xs ∧ w.length = i ∧ Kp b H H') ⟨none, xs, [], rfl, hr2, hw2, .refl _, rfl, Kp.same hB s2⟩ ?_ ?_
    · rintro i σ H' hi ⟨v, r, w, rfl, hr, hw, pm, lw, kp⟩
      have B1 := kp.bag
      have el := pm.length_eq
      rw [List.length_append, lw] at el
      walk_at "rd"
      refine ⟨tyL hw, tyL hr, _, hr, b, _, rfl, B1, by omega, by omega, fun m H3 m0 m1 kp3 => ?_⟩
      obtain ⟨m, rfl⟩ := ni_nat m0
      have hm : m < r.length := by omega
      have hr3 := kp3.lst B1 hr
      have hw3 := kp3.lst B1 hw
      have ew : (upd H3 qr (.lst (r.eraseIdx m))) qw = some (.lst w) := by
        rw [upd_ne (Ne.symm ne)]
        exact hw3
      refine ⟨_, _, rfl, hr3, by omega, by omega, m, seqIx hm, _, List.getElem?_eq_getElem hm, _, ew, Nat.lt_of_le_of_lt (by omega : _ ≤ 1000) (by decide), r.eraseIdx m, ?_, ?_, ?_, ?_⟩
      · rw [upd_ne ne, upd_same]
      · rw [List.append_assoc]
        refine List.Perm.trans (List.Perm.append_left w ?_) pm
        exact eidx_perm hm
      · rw [List.length_append, lw]
        rfl
      · exact Kp.put hB (Kp.put hB (kp.trans kp3) nr) nw0
    rintro σ H' ⟨v, r, w, rfl, hr, hw, pm, lw, kp⟩
    refine k0 _ _ ?_
    walk_at "rd"
    have el := pm.length_eq
    rw [List.length_append, lw] at el
    have er : r = [] := List.length_eq_zero_iff.mp (by omega)
    rw [er, List.append_nil] at pm
    exact q qw w H' pm kp nw0 hw
end
section
variable {P : Program} {w : World} {K : PySem.W.Frag} {mg : Str → Option Value} {base : Heap}
theorem ok__law_once (S : Src K mg "_law_once" s__law_once) (T : Tx P K mg)   : Cal P w K mg base CX0 1 "_law_once" ["_law_row"] spOnce := by
  refine S.cal sc__law_once bn__law_once (fun vs H Q E h => ?_) (fun f cdv A outer s H vs Q E hr h => ?_)
  · first | (obtain ⟨rfl, _⟩ := h; rfl) | (obtain ⟨_, rfl, _⟩ := h; rfl) | (obtain ⟨_, _, rfl, _⟩ := h; rfl) | (obtain ⟨_, _, _, rfl, _⟩ := h; rfl) | (obtain ⟨_, _, _, _, rfl, _⟩ := h; rfl) | (obtain ⟨_, _, _, _, _, rfl, _⟩ := h; rfl) | (obtain ⟨_, _, _, _, _, _, rfl, _⟩ := h; rfl) | (obtain ⟨_, _, _, _, _, _, _, rfl, _⟩ := h; rfl) | (obtain ⟨_, _, _, _, _, _, _, _, rfl, _⟩ := h; rfl) | (obtain ⟨_, _, _, _, _, _, _, _, _, rfl, _⟩ := h; rfl) | (obtain ⟨_, _, _, _, _, _, _, _, _, _, rfl, _⟩ := h; rfl) | (obtain ⟨_, _, _, _, _, _, _, _, _, _, _, rfl, _⟩ := h; rfl) | (obtain ⟨_, _, _, _, _, _, _, _, _, _, _, _, rfl, _⟩ := h; rfl)
  · skip
    refine ⟨_, (pss_cons (ps_set (i := 1) sc__law_once.nd rfl (Or.inl rfl) (pe_lst pa_nil))
        (pss_cons (ps_for PassesOwn.never rfl (pi_list (Fx.pe_cB Fx.srt_Q T.b_sorted (by decide +kernel) (Fx.pa_c (pv 0) pa_nil))) (pg_name (i := 2) sc__law_once.nd rfl (Or.inl rfl)) (pss_one (ps_if (pt_cmpR op_notIn_seq (pv 2) (pv 1) rfl) (pss_one (ps_expr (pe_bm PySem.F.plainAttrs_list PySem.F.slot_list_append PySem.F.type_list_append mt_append (pv 1) (Fx.pa_c (pv 2) pa_nil)))) pss_nil)))
        (pss_one (ps_ret (pv 1))))), ?_⟩
    obtain ⟨p, l, rfl, hp, hl, q⟩ := h
    refine seqI fun K1 k1 => ?_
    walk_at "rd"
    refine ⟨by decide, fun q0 n0 => k1 _ _ ?_⟩
    clear k1
    have s0 := same_new (o := .lst []) n0
    have nq0 := n0
    have h0 : (upd H q0 (.lst [])) q0 = some (.lst []) := upd_same
    generalize upd H q0 (.lst []) = H0 at s0 h0
    refine seqI fun K0 k0 => ?_
    refine ⟨_, rfl, p, l.map fun n => ((n : Nat) : Int), rfl, ?_, fun ns qs pm pw nqs => ⟨qs, rfl, ⟨_, .inl (.inl upd_same)⟩, ?_⟩⟩
    · rw [List.map_map]
      exact hp.elim (fun h => .inl (s0 _ _ h)) fun h => .inr (s0 _ _ h)
    have ev : ns.map V.int = ni (srtN l) := by
      rw [srt_int pm pw, List.map_map]
      rfl
    rw [ev]
    have s1 := same_new (o := .lst (ni (srtN l))) nqs
    have h1 := s1 _ _ h0
    have hs1 : (upd H0 qs (.lst (ni (srtN l)))) qs = some (.lst (ni (srtN l))) := upd_same
    have ne : qs ≠ q0 := fun e => by rw [e, h0] at nqs; cases nqs
    have s01 := s0.trans s1
    generalize upd H0 qs (.lst (ni (srtN l))) = H1 at s01 h1 hs1
    clear s1 nqs h0 s0
    refine for_list (K := K) (a := qs) (xs := ni (srtN l)) (fun i σ H' => ∃ v : Option V, σ = [some (.ref p), some (.ref q0), v] ∧ H' = upd H1 q0 (.lst (ni (onceL ((srtN l).take i))))) ⟨none, rfl, ?_⟩ (fun i σ H' _ ⟨_, _, e⟩ => by rw [e]; exact .inl (.inl (by rw [upd_ne ne]; exact hs1))) ?_ ?_
    · funext a
      by_cases e : a = q0
      · rw [e, upd_same]
        exact h1
      · rw [upd_ne e]
    · rintro j y σ H' hy ⟨v, rfl, rfl⟩
      have hj := (List.getElem?_eq_some_iff.mp hy).1
      rw [ni_len] at hj
      rw [ni_get hj] at hy
      cases hy
      have hj2 : (srtN l)[j]? = some ((srtN l).getD j 0) := by rw [List.getD_eq_getElem?_getD, List.getElem?_eq_getElem hj]; rfl
      refine ifI fun A B ka kb => ?_
      walk_at "rd"
      refine ⟨q0, _, rfl, .inl (.inl (.inl upd_same)), rfl, flat_ni _, _, rfl, ?_⟩
      rw [inV_ni]
      have e := once_take hj2
      by_cases g : (srtN l).getD j 0 ∈ onceL ((srtN l).take j)
      · rw [decide_eq_true g, if_neg (by decide)]
        refine kb _ ?_
        rw [if_pos g] at e
        walk_at "rd"
        rw [e]
      · rw [decide_eq_false g, if_pos (by decide)]
        refine ka _ ?_
        rw [if_neg g] at e
        walk_at "rd"
        refine ⟨tyL upd_same, ?_⟩
        walk_at "rd"
        rw [upd_upd, e]
        have hl : (onceL ((srtN l).take j)).length ≤ 1000 := by
          have := nodup_le (once_ok ((srtN l).take j)).1 (b := l) fun z hz => (srtN_perm l).mem_iff.mp (List.mem_of_mem_take (((once_ok _).2 z).mp hz))
          omega
        refine ⟨by rw [ni_len]; exact Nat.lt_of_le_of_lt hl (by decide), ?_⟩
        rw [ni, ni, List.map_append]
        rfl
    · rintro σ H' ⟨v, rfl, rfl⟩
      refine k0 _ _ ?_
      walk_at "rd"
      rw [ni_len, List.take_length]
      rw [once_srt]
      exact q q0 _ (fun a o h => by rw [upd_ne (ne_of_none h nq0)]; exact s01 _ _ h) nq0 upd_same
end
section
variable {P : Program} {w : World} {K : PySem.W.Frag} {mg : Str → Option Value} {base : Heap}
theorem ok__law_holders (S : Src K mg "_law_holders" s__law_holders) (T : Tx P K mg) (C__law_shuffled : Cal P w K mg base CX0 2 "_law_shuffled" ["_law_bag_here", "_law_things"] spShuf) (C__law_one_in : Cal P w K mg base CX0 2 "_law_one_in" ["_law_bag_here", "_law_many"] spOneIn) (C__law_pick : Cal P w K mg base CX0 1 "_law_pick" ["_law_bag_here", "_law_many"] spPick)  : Cal P w K mg base CX0 3 "_law_holders" ["_law_bag_here", "_law_many"] spHolders := by
  refine S.cal sc__law_holders bn__law_holders (fun vs H Q E h => ?_) (fun f cdv A outer s H vs Q E hr h => ?_)
  · first | (obtain ⟨rfl, _⟩ := h; rfl) | (obtain ⟨_, rfl, _⟩ := h; rfl) | (obtain ⟨_, _, rfl, _⟩ := h; rfl) | (obtain ⟨_, _, _, rfl, _⟩ := h; rfl) | (obtain ⟨_, _, _, _, rfl, _⟩ := h; rfl) | (obtain ⟨_, _, _, _, _, rfl, _⟩ := h; rfl) | (obtain ⟨_, _, _, _, _, _, rfl, _⟩ := h; rfl) | (obtain ⟨_, _, _, _, _, _, _, rfl, _⟩ := h; rfl) | (obtain ⟨_, _, _, _, _, _, _, _, rfl, _⟩ := h; rfl) | (obtain ⟨_, _, _, _, _, _, _, _, _, rfl, _⟩ := h; rfl) | (obtain ⟨_, _, _, _, _, _, _, _, _, _, rfl, _⟩ := h; rfl) | (obtain ⟨_, _, _, _, _, _, _, _, _, _, _, rfl, _⟩ := h; rfl) | (obtain ⟨_, _, _, _, _, _, _, _, _, _, _, _, rfl, _⟩ := h; rfl)
  · skip
    refine ⟨_, (pss_cons (ps_set (i := 2) sc__law_holders.nd rfl (Or.inl rfl) (Fx.pe_cal C__law_shuffled (hr.mono (by decide)) pass0 (Fx.pa_c (pv 0) (Fx.pa_c (pe_listRg rfl rfl T.b_list (prg_2 rfl T.b_range pe_int (pe_op op_add (pv 1) pe_int))) pa_nil))))
        (pss_cons (ps_set (i := 3) sc__law_holders.nd rfl (Or.inl rfl) (Fx.pe_cal C__law_one_in (hr.mono (by decide)) pass0 (Fx.pa_c (pv 0) (Fx.pa_c pe_int pa_nil))))
        (pss_cons (ps_set (i := 4) sc__law_holders.nd rfl (Or.inl rfl) (pe_op op_rep (pe_lst (Fx.pa_c pe_int pa_nil)) (pe_op op_add (pv 1) pe_int)))
        (pss_cons (ps_for PassesOwn.never rfl (pi_range2 rfl T.b_range (Fx.pa_c pe_int (Fx.pa_c (pv 1) pa_nil))) (pg_name (i := 5) sc__law_holders.nd rfl (Or.inl rfl)) (pss_one (ps_if (pt_val (pv 3)) (pss_one (ps_asg (pe_ix Fx.ix_L (pv 2) (pe_op op_sub (pv 5) pe_int) (fun _ _ => rfl)) (pg_sub (pv 4) (pe_ix Fx.ix_L (pv 2) (pv 5) (fun _ _ => rfl)) set_list))) (pss_one (ps_if (pt_cmpR op_gt (Fx.pe_cal C__law_pick (hr.mono (by decide)) pass0 (Fx.pa_c (pv 0) (Fx.pa_c pe_int pa_nil))) pe_int (nomark _)) (pss_one (ps_asg (pe_ix Fx.ix_L (pv 2) (Fx.pe_cal C__law_pick (hr.mono (by decide)) pass0 (Fx.pa_c (pv 0) (Fx.pa_c (pv 5) pa_nil))) (fun _ _ => rfl)) (pg_sub (pv 4) (pe_ix Fx.ix_L (pv 2) (pv 5) (fun _ _ => rfl)) set_list))) pss_nil)))))
        (pss_one (ps_ret (pv 4))))))), ?_⟩
    obtain ⟨b, n, rfl, hB, n1, n60, q⟩ := h
    refine seqI fun K1 k1 => ?_
    walk_at "rd"
    refine ⟨⟨by decide, by decide, by omega, by omega, by omega⟩, fun q0 n0 => ?_⟩
    rw [rg_ni]
    have s0 := same_new (o := .lst (ni (List.range' 1 n))) n0
    have B0 := hB.same s0
    refine ⟨b, q0, _, rfl, B0, upd_same, by simp; omega, fun po ys H1 pm0 kp1 np1 ho => k1 _ _ ?_⟩
    clear k1
    obtain ⟨order, rfl, pm⟩ := perm_ni pm0
    clear pm0
    have kp1 := (Kp.same hB s0).trans kp1
    have B1 := kp1.bag
    clear B0 s0
    refine seqI fun K1 k1 => ?_
    walk_at "rd"
    refine ⟨b, _, rfl, B1, by decide, by decide, fun ch H2 kp2 => k1 _ _ ?_⟩
    clear k1
    have ho2 := kp2.lst B1 ho
    have kp2 := kp1.trans kp2
    have B2 := kp2.bag
    refine seqI fun K1 k1 => ?_
    walk_at "rd"
    refine ⟨by decide, fun l0 nl0 => ⟨by omega, by omega, ?_, fun qh nqh => k1 _ _ ?_⟩⟩
    · exact Nat.le_trans (by omega : _ ≤ 100) (by decide)
    clear k1
    rw [rep_flat]
    refine seqI fun K0 k0 => ?_
    have s3 := same_new (o := .lst [.int 0]) nl0
    have s4 := s3.trans (same_new (o := .lst (ni (List.replicate (n + 1) 0))) nqh)
    have hh4 : (upd (upd H2 l0 (.lst [.int 0])) qh (.lst (ni (List.replicate (n + 1) 0)))) qh = some (.lst (ni (List.replicate (n + 1) 0))) := upd_same
    have nqh0 := kp2.free (s3.free nqh)
    generalize upd (upd H2 l0 (.lst [.int 0])) qh (.lst (ni (List.replicate (n + 1) 0))) = H4 at s4 hh4
    have ho4 := s4 _ _ ho2
    have kp4 := kp2.trans (Kp.same B2 s4)
    have neo : po ≠ qh := fun e => by
      rw [← e] at nqh
      rw [s3 _ _ ho2] at nqh
      cases nqh
    clear kp2 s4 s3 nqh nl0 ho2 B2 ho B1
    have lo : order.length = n := by rw [pm.length_eq, List.length_range']
    have memo : ∀ t, t ∈ order ↔ 1 ≤ t ∧ t ≤ n := fun t => by
      rw [pm.mem_iff, List.mem_range'_1]
      omega
    have ndo : order.Nodup := pm.nodup_iff.mpr (List.nodup_range' ..)
    refine forI fun R0 hR => ?_
    walk_at "rd"
    refine ⟨by decide, by decide, by omega, by omega, hR _ _ ?_⟩
    clear hR
    rw [show ((n : Int) - 1).toNat = n - 1 by omega]
    have done_ : ∀ (hol : List Nat) (H' : Hp) (v5 : Option V), hol.length = n + 1 → hol.getD 0 0 = 0 → (∀ v ∈ hol, v ≤ n) → (∀ t, hol.getD t 0 = 0 ∨ ∃ i j : Nat, i < j ∧ order[i]? = some (hol.getD t 0) ∧ order[j]? = some t) → H' qh = some (.lst (ni hol)) → Kp b H H' → K0 [some (.ref b), some (.int (n : Nat)), some (.ref po), some (.bl ch), some (.ref qh), v5] H' := by
      intro hol H' v5 lh h0 vh hr hh kp
      refine k0 _ _ ?_
      walk_at "rd"
      exact q qh hol H' kp nqh0 hh ⟨lh, h0, vh, rank_order lh vh ndo memo hr⟩
    clear k0
    refine for_range (lo := 1) (n := n - 1) (fun i σ H' => ∃ (v5 : Option V) (hol : List Nat), σ = [some (.ref b), some (.int (n : Nat)), some (.ref po), some (.bl ch), some (.ref qh), v5] ∧ hol.length = n + 1 ∧ hol.getD 0 0 = 0 ∧ (∀ v ∈ hol, v ≤ n) ∧ (∀ t, hol.getD t 0 = 0 ∨ ∃ i j : Nat, i < j ∧ order[i]? = some (hol.getD t 0) ∧ order[j]? = some t) ∧ H' qh = some (.lst (ni hol)) ∧ H' po = some (.lst (ni order)) ∧ Kp b H H') ⟨none, _, rfl, List.length_replicate, rep_getD _ _, fun v hv => by rw [(List.mem_replicate.mp hv).2]; exact Nat.zero_le _, fun t => .inl (rep_getD _ _), hh4, ho4, kp4⟩ ?_ ?_
    · rintro i σ H' hi ⟨v5, hol, rfl, lh, h0, vh, hr, hh, ho, kp⟩
      have B1 := kp.bag
      have e1 : (1 : Int) + (i : Nat) = ((i + 1 : Nat) : Int) := by omega
      rw [e1]
      have oi : order[i + 1]? = some (order.getD (i + 1) 0) := by rw [List.getD_eq_getElem?_getD, List.getElem?_eq_getElem (by omega)]; rfl
      have om := (memo _).mp (List.mem_of_getElem? oi)
      -- what a store makes
      have put : ∀ (k : Nat) (H2 : Hp), k < i + 1 → Kp b H H2 → H2 po = some (.lst (ni order)) → (hol.set (order.getD (i + 1) 0) (order.getD k 0)).length = n + 1 ∧ (hol.set (order.getD (i + 1) 0) (order.getD k 0)).getD 0 0 = 0 ∧ (∀ v ∈ hol.set (order.getD (i + 1) 0) (order.getD k 0), v ≤ n) ∧ (∀ t, (hol.set (order.getD (i + 1) 0) (order.getD k 0)).getD t 0 = 0 ∨ ∃ i_1 j : Nat, i_1 < j ∧ order[i_1]? = some ((hol.set (order.getD (i + 1) 0) (order.getD k 0)).getD t 0) ∧ order[j]? = some t) ∧ (upd H2 qh (.lst (ni (hol.set (order.getD (i + 1) 0) (order.getD k 0))))) po = some (.lst (ni order)) ∧ Kp b H (upd H2 qh (.lst (ni (hol.set (order.getD (i + 1) 0) (order.getD k 0))))) := by
        intro k H2 hk kp2 ho2
        have ok : order[k]? = some (order.getD k 0) := by rw [List.getD_eq_getElem?_getD, List.getElem?_eq_getElem (by omega)]; rfl
        have okm := (memo _).mp (List.mem_of_getElem? ok)
        refine ⟨(List.length_set ..).trans lh, ?_, fun v hv => (List.mem_or_eq_of_mem_set hv).elim (vh v) fun e => by omega, fun t => ?_, by rw [upd_ne neo]; exact ho2, Kp.put hB kp2 nqh0⟩
        · rw [getD_set, if_neg (fun z => by omega)]
          exact h0
        · rw [getD_set]
          by_cases e : order.getD (i + 1) 0 = t
          · subst e
            rw [if_pos ⟨rfl, by omega⟩]
            exact .inr ⟨k, i + 1, hk, ok, oi⟩
          · rw [if_neg (fun z => e z.1)]
            exact hr t
      refine ifI fun A2 B2 ka kb => ?_
      walk_at "rd"
      cases ch with
      | true =>
        rw [if_pos rfl]
        refine ka _ ?_
        clear ka kb
        walk_at "rd"
        have e2 : ((i + 1 : Nat) : Int) - 1 = (i : Nat) := by omega
        rw [e2]
        refine ⟨_, ho, _, ni_at (by omega), _, ho, _, ni_at (by omega), _, _, rfl, hh, order.getD (i + 1) 0, ix_ni (by omega), ?_⟩
        rw [ni_set]
        obtain ⟨p1, p2, p3, p4, p5, p6⟩ := put i H' (by omega) kp ho
        exact ⟨_, p1, p2, p3, p4, rfl, p5, p6⟩
      | false =>
        rw [if_neg (by decide)]
        refine kb _ ?_
        clear ka kb
        refine ifI fun A2 B2 ka kb => ?_
        walk_at "rd"
        refine ⟨b, 3, rfl, B1, by decide, by decide, fun m H2 m0 m1 kp2 => ?_⟩
        walk_at "rd"
        have hh2 := kp2.lst B1 hh
        have ho2 := kp2.lst B1 ho
        have kpH := kp.trans kp2
        have B2 := kp2.bag
        refine ite_i (fun _ => ka _ ?_) (fun _ => kb _ ?_)
        · clear ka kb
          walk_at "rd"
          refine ⟨b, _, rfl, B2, by omega, by omega, fun k H3 k0 k1 kp3 => ?_⟩
          obtain ⟨k, rfl⟩ := ni_nat k0
          have hh3 := kp3.lst B2 hh2
          have ho3 := kp3.lst B2 ho2
          walk_at "rd"
          refine ⟨_, ho3, _, ni_at (by omega), _, ho3, _, ni_at (by omega), _, _, rfl, hh3, order.getD (i + 1) 0, ix_ni (by omega), ?_⟩
          rw [ni_set]
          obtain ⟨p1, p2, p3, p4, p5, p6⟩ := put k H3 (by omega) (kpH.trans kp3) ho3
          exact ⟨_, p1, p2, p3, p4, rfl, p5, p6⟩
        · clear ka kb
          walk_at "rd"
          exact ⟨hol, lh, h0, vh, hr, hh2, ho2, kpH⟩
    rintro σ H' ⟨v5, hol, rfl, lh, h0, vh, hr, hh, ho, kp⟩
    exact done_ hol H' v5 lh h0 vh hr hh kp
end
section
variable {P : Program} {w : World} {K : PySem.W.Frag} {mg : Str → Option Value} {base : Heap}
theorem ok__law_pairs (S : Src K mg "_law_pairs" s__law_pairs) (T : Tx P K mg) (C__law_holders : Cal P w K mg base CX0 3 "_law_holders" ["_law_bag_here", "_law_many"] spHolders) (C__law_pick : Cal P w K mg base CX0 1 "_law_pick" ["_law_bag_here", "_law_many"] spPick)  : Cal P w K mg base CX0 4 "_law_pairs" ["_law_bag_here", "_law_many"] spPairs := by
  refine S.cal sc__law_pairs bn__law_pairs (fun vs H Q E h => ?_) (fun f cdv A outer s H vs Q E hr h => ?_)
  · first | (obtain ⟨rfl, _⟩ := h; rfl) | (obtain ⟨_, rfl, _⟩ := h; rfl) | (obtain ⟨_, _, rfl, _⟩ := h; rfl) | (obtain ⟨_, _, _, rfl, _⟩ := h; rfl) | (obtain ⟨_, _, _, _, rfl, _⟩ := h; rfl) | (obtain ⟨_, _, _, _, _, rfl, _⟩ := h; rfl) | (obtain ⟨_, _, _, _, _, _, rfl, _⟩ := h; rfl) | (obtain ⟨_, _, _, _, _, _, _, rfl, _⟩ := h; rfl) | (obtain ⟨_, _, _, _, _, _, _, _, rfl, _⟩ := h; rfl) | (obtain ⟨_, _, _, _, _, _, _, _, _, rfl, _⟩ := h; rfl) | (obtain ⟨_, _, _, _, _, _, _, _, _, _, rfl, _⟩ := h; rfl) | (obtain ⟨_, _, _, _, _, _, _, _, _, _, _, rfl, _⟩ := h; rfl) | (obtain ⟨_, _, _, _, _, _, _, _, _, _, _, _, rfl, _⟩ := h; rfl)
  · skip
    refine ⟨_, (pss_cons (ps_set (i := 2) sc__law_pairs.nd rfl (Or.inl rfl) (Fx.pe_cal C__law_holders (hr.mono (by decide)) pass0 (Fx.pa_c (pv 0) (Fx.pa_c (pv 1) pa_nil))))
        (pss_cons (ps_set (i := 3) sc__law_pairs.nd rfl (Or.inl rfl) (pe_lst pa_nil))
        (pss_cons (ps_for PassesOwn.never rfl (pi_range2 rfl T.b_range (Fx.pa_c pe_int (Fx.pa_c (pe_op op_add (pv 1) pe_int) pa_nil))) (pg_name (i := 4) sc__law_pairs.nd rfl (Or.inl rfl)) (pss_cons (ps_setLc (i := 5) (own := [("_law_step", 6)]) rfl sc__law_pairs.nd rfl rfl (sw_true rfl rfl rfl (by decide +kernel)) (pi_range1 rfl T.b_range (Fx.pa_c (Fx.pe_cal C__law_pick (hr.mono (by decide)) pass0 (Fx.pa_c (pv 0) (Fx.pa_c pe_int pa_nil))) pa_nil)) (blkOk_by (N := N__law_pairs) (sc := defScope s__law_pairs) (by decide +kernel)) (fun _ _ _ _ _ => (pg_name (i := 6) sc__law_pairs.nd rfl (Or.inl rfl))) (fun _ _ _ _ _ => pts_nil) (fun _ _ _ _ _ => (Fx.pe_cal C__law_pick (hr.mono (by decide)) pass0 (Fx.pa_c (pv 0) (Fx.pa_c pe_int pa_nil)))))
        (pss_one (ps_expr (pe_bm PySem.F.plainAttrs_list PySem.F.slot_list_append PySem.F.type_list_append mt_append (pv 3) (Fx.pa_c (pe_tup (Fx.pa_c (pe_ix Fx.ix_L (pv 2) (pv 4) (fun _ _ => rfl)) (Fx.pa_c (Fx.pe_cTy Fx.tup_L T.b_tuple (by decide +kernel) (Fx.pa_c (pv 5) pa_nil)) pa_nil))) pa_nil))))))
        (pss_one (ps_ret (pv 3)))))), ?_⟩
    obtain ⟨b, n, rfl, hB, n1, n60, q⟩ := h
    refine seqI fun K1 k1 => ?_
    walk_at "rd"
    refine ⟨b, n, rfl, hB, n1, n60, fun qh hol H1 kp1 nqh hh ok => k1 _ _ ?_⟩
    clear k1
    have B1 := kp1.bag
    refine seqI fun K1 k1 => ?_
    walk_at "rd"
    refine ⟨by decide, fun qp np => k1 _ _ ?_⟩
    clear k1
    have s2 := same_new (o := .lst []) np
    have hh2 := s2 _ _ hh
    have hp2 : (upd H1 qp (.lst [])) qp = some (.lst []) := upd_same
    have kp2 := kp1.trans (Kp.same B1 s2)
    have np0 := kp1.free np
    have neq : qh ≠ qp := fun e => by rw [← e, hh] at np; cases np
    generalize upd H1 qp (.lst []) = H2 at s2 hh2 hp2 kp2
    refine seqI fun K0 k0 => ?_
    refine forI fun R0 hR => ?_
    walk_at "rd"
    refine ⟨by decide, by decide, by omega, by omega, hR _ _ ?_⟩
    clear hR
    rw [show ((n : Int) + 1 - 1).toNat = n by omega]
    refine for_range (lo := 1) (n := n) (fun i σ H' => ∃ (v4 v5 : Option V) (as : List Addr) (rs : List (Nat × List Nat)), σ = [some (.ref b), some (.int (n : Nat)), some (.ref qh), some (.ref qp), v4, v5, none] ∧ PairsAt H' qp as rs ∧ rs.length = i ∧ rs.map (fun r => r.1) = (hol.drop 1).take i ∧ (∀ r ∈ rs, r.2.length ≤ 3 ∧ ∀ m ∈ r.2, m < 32) ∧ H' qh = some (.lst (ni hol)) ∧ Kp b H H') ⟨none, none, [], [], rfl, ⟨hp2, rfl, fun j a r e => by cases e⟩, rfl, rfl, fun r hr => (by cases hr), hh2, kp2⟩ ?_ ?_
    · rintro i σ H' hi ⟨v4, v5, as, rs, rfl, PA, lr, em, h3, hh, kp⟩
      have B2 := kp.bag
      have e1 : (1 : Int) + (i : Nat) = ((i + 1 : Nat) : Int) := by omega
      rw [e1]
      refine seqI fun K1 k1 => ?_
      walk_at "rd"
      generalize hte : tCall spPick [] E0 (tCons (tVar 0) (tCons (tC (V.int 32)) tNil)) = te
      generalize hg : gName 6 = g
      generalize htt : tYes = tt
      unfold tLc
      walk_at "rd"
      refine ⟨b, 4, rfl, B2, by decide, by decide, fun m H3 m0 m1 kp3 => ?_⟩
      walk_at "rd"
      refine ⟨by omega, by omega, fun D nD => ?_⟩
      obtain ⟨m, rfl⟩ := ni_nat m0
      rw [Int.toNat_natCast]
      have B3 := kp3.bag
      refine lc_range (lo := 0) (n := m) (g := g) (tt := tt) (te := te) (vs := [6]) (σ := [some (.ref b), some (.int (n : Nat)), some (.ref qh), some (.ref qp), some (.int ((i + 1 : Nat) : Int)), v5, none]) (fun j H' => ∃ l : List Nat, l.length = j ∧ (∀ z ∈ l, z < 32) ∧ H' D = some (.lst (ni l)) ∧ Kp b H3 H') ⟨[], rfl, fun z hz => (by cases hz), upd_same, Kp.same B3 (same_new nD)⟩ ?_ ?_
      · rintro j H4 hj ⟨l, ll, hl, hD, kp4⟩
        rw [← hte, ← hg, ← htt]
        refine ⟨rfl, ?_⟩
        walk_at "rd"
        refine ⟨b, 32, rfl, kp4.bag, by decide, by decide, fun z H5 z0 z1 kp5 => ?_⟩
        obtain ⟨z, rfl⟩ := ni_nat z0
        refine ⟨_, kp5.lst kp4.bag hD, by rw [ni_len, ll]; exact Nat.lt_of_lt_of_le (by omega : _ < 100) (by decide), l ++ [z], by rw [List.length_append, ll]; rfl, fun y hy => (List.mem_append.mp hy).elim (hl y) fun h => by rw [List.mem_singleton.mp h]; omega, ?_, Kp.put B3 (kp4.trans kp5) nD⟩
        rw [ni, ni, List.map_append]
        rfl
      rintro H4 ⟨l, ll, hl, hD, kp4⟩
      clear hte hg htt
      refine k1 _ _ ?_
      clear k1
      have B4 := kp4.bag
      have hp4 := (kp3.trans kp4).lst B2 PA.h
      have hh4 := (kp3.trans kp4).lst B2 hh
      have kpH := kp.trans (kp3.trans kp4)
      have PA4 : ∀ (j : Nat) (a : Addr) (r : Nat × List Nat), as[j]? = some a → rs[j]? = some r → PairAt H4 a r := fun j a r e1 e2 => by
        obtain ⟨mm, g1, g2⟩ := PA.row j a r e1 e2
        exact ⟨mm, (kp3.trans kp4).tup B2 g1, (kp3.trans kp4).tup B2 g2⟩
      walk_at "rd"
      refine ⟨tyL hp4, ?_⟩
      have g1 : i + 1 < hol.length := by rw [ok.len]; omega
      refine ⟨_, hh4, _, ni_at g1, _, hD, fun tq ntq => ⟨by decide, fun pq npq => ?_⟩⟩
      have s5 := same_new (o := .tup (ni l)) ntq
      have s6 := same_new (o := .tup [.int (hol.getD (i + 1) 0 : Nat), .ref tq]) npq
      have ht6 := s6 _ _ (upd_same (H := H4) (a := tq) (o := .tup (ni l)))
      have hq6 : (upd (upd H4 tq (.tup (ni l))) pq (.tup [.int (hol.getD (i + 1) 0 : Nat), .ref tq])) pq = some (.tup [.int (hol.getD (i + 1) 0 : Nat), .ref tq]) := upd_same
      have s46 := s5.trans s6
      generalize upd (upd H4 tq (.tup (ni l))) pq (.tup [.int (hol.getD (i + 1) 0 : Nat), .ref tq]) = H6 at s46 ht6 hq6
      clear s5 s6 ntq npq
      have hp6 := s46 _ _ hp4
      have keep : ∀ {a : Addr} {xs : List V}, H6 a = some (.tup xs) → (upd H6 qp (.lst (as.map V.ref ++ [.ref pq]))) a = some (.tup xs) := fun h => by
        rw [upd_ne (ne_of h hp6 (by intro z; cases z))]
        exact h
      have la := PA.la
      refine ⟨_, hp6, by rw [List.length_map, la, lr]; exact Nat.lt_of_lt_of_le (by omega : _ < 100) (by decide), as ++ [pq], rs ++ [(hol.getD (i + 1) 0, l)], ⟨?_, ?_, fun j a r e1 e2 => ?_⟩, ?_, ?_, fun r hr => ?_, ?_, Kp.put hB (kpH.then s46) np0⟩
      · rw [upd_same, List.map_append]
        rfl
      · rw [List.length_append, List.length_append, la]
        rfl
      · by_cases hj : j < as.length
        · rw [List.getElem?_append_left hj] at e1
          rw [List.getElem?_append_left (by omega)] at e2
          obtain ⟨mm, g1, g2⟩ := PA4 j a r e1 e2
          exact ⟨mm, keep (s46 _ _ g1), keep (s46 _ _ g2)⟩
        · have hj2 := (List.getElem?_eq_some_iff.mp e1).1
          rw [List.length_append, List.length_singleton] at hj2
          have ej : j = as.length := by omega
          rw [ej, List.getElem?_append_right (Nat.le_refl _), Nat.sub_self] at e1
          rw [ej, la, List.getElem?_append_right (Nat.le_refl _), Nat.sub_self] at e2
          cases e1
          cases e2
          exact ⟨tq, keep hq6, keep ht6⟩
      · rw [List.length_append, lr]
        rfl
      · have g2 : i < (hol.drop 1).length := by rw [List.length_drop]; omega
        rw [List.map_append, em, List.take_add_one, List.getElem?_eq_getElem g2]
        congr 1
        rw [List.getElem_drop]
        show [hol.getD (i + 1) 0] = [_]
        rw [List.getD_eq_getElem?_getD, List.getElem?_eq_getElem g1]
        simp only [Option.getD_some, Nat.add_comm]
      · rcases List.mem_append.mp hr with h | h
        · exact h3 r h
        · rw [List.mem_singleton.mp h]
          exact ⟨by rw [ll]; omega, hl⟩
      · rw [upd_ne neq]
        exact s46 _ _ hh4
    rintro σ H' ⟨v4, v5, as, rs, rfl, PA, lr, em, h3, hh, kp⟩
    refine k0 _ _ ?_
    walk_at "rd"
    have eh : (0 :: rs.map fun r => r.1) = hol := by
      have h := ok.len
      have h0 := ok.h0
      cases hol with
      | nil => cases h
      | cons z t =>
        have ez : z = 0 := h0
        have lt : t.length = n := Nat.succ.inj h
        rw [em, List.drop_one, List.tail_cons, ← lt, List.take_length, ez]
    refine q qp as rs H' kp np0 PA ⟨lr, n1, n60, fun r hr => ⟨?_, by have := (h3 r hr).1; omega, (h3 r hr).2⟩, by rw [eh]; exact ok.rk⟩ fun r hr => (h3 r hr).1
    refine ok.vh _ ?_
    rw [← eh]
    exact List.mem_cons_of_mem _ (List.mem_map.mpr ⟨r, hr, rfl⟩)
end
section
variable {P : Program} {w : World} {K : PySem.W.Frag} {mg : Str → Option Value} {base : Heap}
theorem ok__law_model (S : Src K mg "_law_model" s__law_model) (T : Tx P K mg) (C__law_once : Cal P w K mg base CX0 1 "_law_once" ["_law_row"] spOnce)  : Cal P w K mg base CX0 2 "_law_model" ["_law_pairs_here"] spModel := by
  refine S.cal sc__law_model bn__law_model (fun vs H Q E h => ?_) (fun f cdv A outer s H vs Q E hr h => ?_)
  · first | (obtain ⟨rfl, _⟩ := h; rfl) | (obtain ⟨_, rfl, _⟩ := h; rfl) | (obtain ⟨_, _, rfl, _⟩ := h; rfl) | (obtain ⟨_, _, _, rfl, _⟩ := h; rfl) | (obtain ⟨_, _, _, _, rfl, _⟩ := h; rfl) | (obtain ⟨_, _, _, _, _, rfl, _⟩ := h; rfl) | (obtain ⟨_, _, _, _, _, _, rfl, _⟩ := h; rfl) | (obtain ⟨_, _, _, _, _, _, _, rfl, _⟩ := h; rfl) | (obtain ⟨_, _, _, _, _, _, _, _, rfl, _⟩ := h; rfl) | (obtain ⟨_, _, _, _, _, _, _, _, _, rfl, _⟩ := h; rfl) | (obtain ⟨_, _, _, _, _, _, _, _, _, _, rfl, _⟩ := h; rfl) | (obtain ⟨_, _, _, _, _, _, _, _, _, _, _, rfl, _⟩ := h; rfl) | (obtain ⟨_, _, _, _, _, _, _, _, _, _, _, _, rfl, _⟩ := h; rfl)
  · skip
    refine ⟨_, (pss_cons (ps_set (i := 1) sc__law_model.nd rfl (Or.inl rfl) (Fx.pe_cB Fx.len_L T.b_len (by decide +kernel) (Fx.pa_c (pv 0) pa_nil)))
        (pss_cons (ps_setLc (i := 3) (own := [("_law_thing", 2)]) rfl sc__law_model.nd rfl rfl (sw_true rfl rfl rfl (by decide +kernel)) (pi_range1 rfl T.b_range (Fx.pa_c (pe_op op_add (pv 1) pe_int) pa_nil)) (blkOk_by (N := N__law_model) (sc := defScope s__law_model) (by decide +kernel)) (fun _ _ _ _ _ => (pg_name (i := 2) sc__law_model.nd rfl (Or.inl rfl))) (fun _ _ _ _ _ => pts_nil) (fun _ _ _ _ _ => (pe_lst pa_nil)))
        (pss_cons (ps_for PassesOwn.never rfl (pi_range2 rfl T.b_range (Fx.pa_c pe_int (Fx.pa_c (pe_op op_add (pv 1) pe_int) pa_nil))) (pg_name (i := 2) sc__law_model.nd rfl (Or.inl rfl)) (pss_one (ps_expr (pe_bm PySem.F.plainAttrs_list PySem.F.slot_list_append PySem.F.type_list_append mt_append (pe_ix Fx.ix_L (pv 3) (pe_ix Fx.ix_T (pe_ix Fx.ix_L (pv 0) (pe_op op_sub (pv 2) pe_int) (fun _ _ => rfl)) pe_int (fun _ _ => rfl)) (fun _ _ => rfl)) (Fx.pa_c (pv 2) pa_nil)))))
        (pss_cons (ps_set (i := 4) sc__law_model.nd rfl (Or.inl rfl) (pe_op op_cat (pe_lst (Fx.pa_c pe_int pa_nil)) (pe_lc (own := [("_law_pair", 6)]) rfl sc__law_model.nd (pi_list (pv 0)) (blkOk_by (N := N__law_model) (sc := defScope s__law_model) (by decide +kernel)) (fun _ _ _ _ _ => (pg_name (i := 6) sc__law_model.nd rfl (Or.inl rfl))) (fun _ _ _ _ _ => pts_nil) (fun _ _ _ _ _ => (pe_ix Fx.ix_T (pv 6) pe_int (fun _ _ => rfl))))))
        (pss_cons (ps_set (i := 5) sc__law_model.nd rfl (Or.inl rfl) (pe_op op_cat (pe_lst (Fx.pa_c (pe_lst pa_nil) pa_nil)) (pe_lc (own := [("_law_pair", 6)]) rfl sc__law_model.nd (pi_list (pv 0)) (blkOk_by (N := N__law_model) (sc := defScope s__law_model) (by decide +kernel)) (fun _ _ _ _ _ => (pg_name (i := 6) sc__law_model.nd rfl (Or.inl rfl))) (fun _ _ _ _ _ => pts_nil) (fun _ _ _ _ _ => (Fx.pe_cal C__law_once (hr.mono (by decide)) pass0 (Fx.pa_c (pe_ix Fx.ix_T (pv 6) pe_int (fun _ _ => rfl)) pa_nil))))))
        (pss_one (ps_ret (pe_disp (pps_cons pe_str (pv 1) (pps_cons pe_str (pv 4) (pps_cons pe_str (pv 3) (pps_cons pe_str (pv 5) pps_nil)))) (by rfl) (by rfl) (fun z => by cases z) (by decide))))))))), ?_⟩
    obtain ⟨p, as, rs, n, rfl, PA, R, q⟩ := h
    have n60 := R.n60
    have n1 := R.n1
    refine seqI fun K1 k1 => ?_
    walk_at "rd"
    refine ⟨_, PA.h, k1 _ _ ?_⟩
    clear k1
    rw [show (((as.map V.ref).length : Nat) : Int) = (n : Nat) by rw [List.length_map, PA.la, R.len]]
    obtain ⟨hol, eh⟩ : ∃ hol, hol = 0 :: rs.map fun r => r.1 := ⟨_, rfl⟩
    have lh : hol.length = n + 1 := by rw [eh, List.length_cons, List.length_map, R.len]
    refine seqI fun K1 k1 => ?_
    generalize hte : tLst tNil = te
    generalize hg : gName 2 = g
    generalize htt : tYes = tt
    walk_at "rd"
    unfold tLc
    walk_at "rd"
    refine ⟨by omega, by omega, fun D nD => ?_⟩
    rw [show ((n : Int) + 1).toNat = n + 1 by omega]
    refine lc_range (lo := 0) (n := n + 1) (g := g) (tt := tt) (te := te) (vs := [2]) (σ := [some (.ref p), some (.int (n : Nat)), none, none, none, none, none]) (fun i H' => ∃ pa, pa.length = i ∧ Rows H H' D pa (List.replicate i [])) ⟨[], rfl, Rows.nil nD⟩ ?_ ?_
    · rintro i H' hi ⟨pa, lp, R1⟩
      rw [← hte, ← hg, ← htt]
      refine ⟨rfl, ?_⟩
      walk_at "rd"
      refine ⟨Nat.zero_le _, fun l nl => ⟨_, same_new nl _ _ R1.h, by rw [List.length_map, lp]; exact Nat.lt_of_lt_of_le (by omega : _ < 100) (by decide), pa ++ [l], by rw [List.length_append, lp]; rfl, ?_⟩⟩
      rw [← List.replicate_succ, List.replicate_succ']
      exact R1.push (same_new nl) upd_same nl
    rintro H1 ⟨pa, lp, R1⟩
    clear hte hg htt
    refine k1 _ _ ?_
    clear k1
    refine seqI fun K0 k0 => ?_
    refine forI fun R0 hR => ?_
    walk_at "rd"
    refine ⟨by decide, by decide, by omega, by omega, hR _ _ ?_⟩
    clear hR
    rw [show ((n : Int) + 1 - 1).toNat = n by omega]
    refine for_range (lo := 1) (n := n) (fun i σ H' => ∃ v : Option V, σ = [some (.ref p), some (.int (n : Nat)), v, some (.ref D), none, none, none] ∧ Rows H H' D pa ((List.range (n + 1)).map fun h => (List.range' 1 i).filter fun t => decide (hol.getD t 0 = h))) ⟨none, rfl, ?_⟩ ?_ ?_
    · rw [show (List.range (n + 1)).map (fun h => (List.range' 1 0).filter fun t => decide (hol.getD t 0 = h)) = List.replicate (n + 1) [] by
        rw [List.range'_zero]
        simp only [List.filter_nil, List.map_const', List.length_range]]
      exact R1
    · rintro i σ H' hi ⟨v, rfl, R2⟩
      have hj : i < rs.length := by rw [R.len]; exact hi
      have hja : i < as.length := by rw [PA.la]; exact hj
      obtain ⟨mm, g1, g2⟩ := PA.row i _ _ (List.getElem?_eq_getElem hja) (List.getElem?_eq_getElem hj)
      have hr := R.row _ (List.getElem_mem hj)
      have eg : hol.getD (i + 1) 0 = rs[i].1 := by
        rw [eh, List.getD_eq_getElem?_getD, List.getElem?_cons_succ, List.getElem?_map, List.getElem?_eq_getElem hj]
        rfl
      obtain ⟨ra, era, ha, hra⟩ := R2.at_ (i := rs[i].1) (by rw [List.length_map, List.length_range]; omega)
      walk_at "rd"
      rw [show (1 : Int) + (i : Nat) - 1 = (i : Nat) by omega]
      refine ⟨_, R2.sm _ _ PA.h, _, atI_get (i := i) (by rw [List.getElem?_map, List.getElem?_eq_getElem hja]; rfl), _, rfl, _, R2.sm _ _ g1, _, rfl, _, rfl, _, R2.h, _, ha, tyL hra, _, rfl, _, hra, ?_, ?_⟩
      · rw [ni_len]
        refine Nat.lt_of_le_of_lt (m := 60) ?_ (by decide)
        rw [List.getD_eq_getElem?_getD, List.getElem?_map, List.getElem?_range (by omega)]
        refine Nat.le_trans (List.length_filter_le ..) ?_
        rw [List.length_range']
        omega
      rw [show (1 : Int) + (i : Nat) = ((i + 1 : Nat) : Int) by omega, ni1, ← ni_app, ← eg, ← rows_step (by rw [eg]; exact hr.1)]
      rw [← eg] at era
      exact R2.set era _
    rintro σ H2 ⟨v, rfl, R2⟩
    refine k0 _ _ ?_
    clear k0
    refine seqI fun K1 k1 => ?_
    walk_at "rd"
    refine ⟨by decide, fun q0 n0 => ?_⟩
    have sA := same_new (o := .lst [.int 0]) n0
    have hq0 : (upd H2 q0 (.lst [.int 0])) q0 = some (.lst [.int 0]) := upd_same
    have R3 := R2.then sA
    have PA2 := sA _ _ (R2.sm _ _ PA.h)
    have sm3 := R2.sm.trans sA
    generalize upd H2 q0 (.lst [.int 0]) = H3 at sA hq0 R3 PA2 sm3
    refine lcV (K := K) (a := p) (xs := as.map V.ref) (fun i => [V.int ((rs.map fun r => r.1).getD i 0 : Nat)]) rfl PA2 ?_ ?_
    · intro D nD i y H4 hy h3
      have hj := (List.getElem?_eq_some_iff.mp hy).1
      rw [List.length_map] at hj
      rw [List.getElem?_map, List.getElem?_eq_getElem hj] at hy
      cases hy
      have hj2 : i < rs.length := by rw [← PA.la]; exact hj
      obtain ⟨mm, g1, g2⟩ := PA.row i _ _ (List.getElem?_eq_getElem hj) (List.getElem?_eq_getElem hj2)
      have e : (rs.map fun r => r.1).getD i 0 = rs[i].1 := by rw [List.getD_eq_getElem?_getD, List.getElem?_map, List.getElem?_eq_getElem hj2]; rfl
      refine ⟨rfl, ?_⟩
      walk_at "rd"
      refine ⟨_, h3.1 _ _ (sm3 _ _ g1), _, rfl, ?_⟩
      exact h3.put nD (fun _ => Nat.le_refl _) (by rw [PA.la, R.len] at hj; omega) (Same.refl _) (by rw [e])
    intro D2 H4 nD2 s34 hD2
    rw [flat_one, show (as.map V.ref).length = n by rw [List.length_map, PA.la, R.len], range_getD (by rw [List.length_map, R.len])] at hD2
    refine ⟨D2, rfl, _, s34 _ _ hq0, _, hD2, ?_, fun qh nqh => k1 _ _ ?_⟩
    · rw [ni_len, List.length_map, R.len, List.length_singleton]
      exact Nat.le_trans (by omega : _ ≤ 100) (by decide)
    clear k1
    have e2 : [V.int 0] ++ ni (rs.map fun r => r.1) = ni hol := by rw [eh]; rfl
    rw [e2]
    have s5 := same_new (o := .lst (ni hol)) nqh
    have R5 := (R3.then s34).then s5
    have hh5 : (upd H4 qh (.lst (ni hol))) qh = some (.lst (ni hol)) := upd_same
    have nqh0 := (sm3.trans s34).free nqh
    have nhp : qh ∉ D :: pa := fun z => by
      obtain ⟨xs, h⟩ := (R3.then s34).some z
      rw [nqh] at h
      cases h
    generalize upd H4 qh (.lst (ni hol)) = H5 at s5 R5 hh5
    clear hD2 s34 hq0 sA n0 nqh nD2 s5 R3 R2 PA2 sm3
    refine seqI fun K1 k1 => ?_
    walk_at "rd"
    refine ⟨Nat.zero_le _, fun e0 ne0 => ⟨by decide, fun l0 nl0 => ?_⟩⟩
    have s6 := same_new (o := .lst []) ne0
    have s7 := same_new (o := .lst [.ref e0]) nl0
    have he7 := s7 _ _ (upd_same (H := H5) (a := e0) (o := .lst []))
    have hl7 : (upd (upd H5 e0 (.lst [])) l0 (.lst [.ref e0])) l0 = some (.lst [.ref e0]) := upd_same
    have s57 := s6.trans s7
    generalize upd (upd H5 e0 (.lst [])) l0 (.lst [.ref e0]) = H7 at s57 he7 hl7
    generalize hte : tCall spOnce [] E0 (tCons (tOp rIxTt (tVar 6) (tC (V.int 1))) tNil) = te
    generalize hg : gName 6 = g
    generalize htt : tYes = tt
    have PA7 := s57 _ _ (R5.sm _ _ PA.h)
    refine ⟨_, rfl, p, rfl, ⟨_, .inl (.inl PA7)⟩, fun D2 nD2 => ?_⟩
    refine lc_list (K := K) (a := p) (xs := as.map V.ref) (g := g) (tt := tt) (te := te) (vs := [6]) (σ := [some (.ref p), some (.int (n : Nat)), v, some (.ref D), some (.ref qh), none, none]) (fun i H' => ∃ ma, ma.length = i ∧ Rows H7 H' D2 ma ((rs.take i).map fun r => srtN (onceL r.2))) ⟨[], rfl, Rows.nil nD2⟩ (fun i H' _ ⟨_, _, R⟩ => .inl (.inl (R.sm _ _ PA7))) ?_ ?_
    · rintro i y H' hy ⟨ma, lma, R6⟩
      have hj := (List.getElem?_eq_some_iff.mp hy).1
      rw [List.length_map] at hj
      rw [List.getElem?_map, List.getElem?_eq_getElem hj] at hy
      cases hy
      have hj2 : i < rs.length := by rw [← PA.la]; exact hj
      obtain ⟨mm, g1, g2⟩ := PA.row i _ _ (List.getElem?_eq_getElem hj) (List.getElem?_eq_getElem hj2)
      have sm := (R5.sm.trans s57).trans R6.sm
      have hr := R.row _ (List.getElem_mem hj2)
      rw [← hte, ← hg, ← htt]
      refine ⟨rfl, ?_⟩
      walk_at "rd"
      refine ⟨_, sm _ _ g1, _, rfl, mm, rs[i].2, rfl, .inr (sm _ _ g2), by omega, fun q1 H8 s8 nq1 hq1 => ?_⟩
      refine ⟨_, s8 _ _ R6.h, by rw [List.length_map, lma]; exact Nat.lt_of_lt_of_le (by rw [R.len] at hj2; omega : _ < 100) (by decide), ma ++ [q1], by rw [List.length_append, lma]; rfl, ?_⟩
      rw [List.take_add_one, List.getElem?_eq_getElem hj2, List.map_append]
      exact R6.push s8 hq1 nq1
    rintro H8 ⟨ma, lma, R6⟩
    rw [List.length_map, PA.la, List.take_length] at R6
    rw [List.length_map, PA.la, R.len] at lma
    refine ⟨D2, rfl, _, R6.sm _ _ hl7, _, R6.h, ?_, fun qm nqm => k1 _ _ ?_⟩
    · rw [List.length_map, lma, List.length_singleton]
      exact Nat.le_trans (by omega : _ ≤ 100) (by decide)
    clear k1 hte hg htt
    have s9 := same_new (o := .lst (V.ref e0 :: ma.map V.ref)) nqm
    have R9 := R6.cons (Ha := H5) s57 (l0 := []) he7 ne0 nqm
    have R10 := (R5.then (s57.trans R6.sm)).then s9
    have hh10 := s9 _ _ ((s57.trans R6.sm) _ _ hh5)
    have n3 : ∀ a ∈ D :: pa, a ∉ qm :: e0 :: ma := fun a ha hb => by
      obtain ⟨xs, e⟩ := R5.some ha
      rw [R9.fr a hb] at e
      cases e
    have n2 : qh ∉ qm :: e0 :: ma := fun z => by
      rw [R9.fr qh z] at hh5
      cases hh5
    show tRet _ _ _ (upd H8 qm (.lst (V.ref e0 :: ma.map V.ref)))
    generalize upd H8 qm (.lst (V.ref e0 :: ma.map V.ref)) = H10 at s9 R9 R10 hh10
    walk_at "rd"
    intro dq ndq
    simp only [tPairs]
    walk_at "rd"
    refine ⟨modKV n ⟨qh, D, qm, pa, e0 :: ma⟩, rfl, (show 4 ≤ 15 by decide), ?_⟩
    rw [upd_upd, show mergeK [] (modKV n ⟨qh, D, qm, pa, e0 :: ma⟩) = modKV n ⟨qh, D, qm, pa, e0 :: ma⟩ from rfl]
    have s11 := same_new (o := .dK (modKV n ⟨qh, D, qm, pa, e0 :: ma⟩)) ndq
    have hn : hol.length - 1 = n := by omega
    have hd11 : (upd H10 dq (.dK (modKV n ⟨qh, D, qm, pa, e0 :: ma⟩))) dq = some (.dK (modKV (hol.length - 1) ⟨qh, D, qm, pa, e0 :: ma⟩)) := by rw [upd_same, hn]
    have Mo_ := mk_mod hd11 (s11 _ _ hh10) (R10.then s11) (R9.then s11) (mks := mks0 rs) (by
      rw [mks0, List.map_cons, List.map_map]
      simp [srtN]) nhp n2 n3
    rw [eh] at Mo_
    refine q dq ⟨qh, D, qm, pa, e0 :: ma⟩ _ (R10.sm.trans s11) (fun a ha => ?_) Mo_
    rcases List.mem_cons.mp ha with rfl | ha
    · exact R10.sm.free ndq
    simp only [Mo.own, List.mem_cons, List.mem_append] at ha
    rcases ha with rfl | rfl | rfl | h | h
    · exact nqh0
    · exact R10.fr _ List.mem_cons_self
    · exact R5.sm.free (R9.fr _ List.mem_cons_self)
    · exact R10.fr a (List.mem_cons_of_mem _ h)
    · exact R5.sm.free (R9.fr a (by rcases h with h | h <;> simp [h]))
end
section
variable {P : Program} {w : World} {K : PySem.W.Frag} {mg : Str → Option Value} {base : Heap}
theorem ok__law_twin (S : Src K mg "_law_twin" s__law_twin) (T : Tx P K mg)   : Cal P w K mg base CX0 1 "_law_twin" ["_law_model_here"] spTwin := by
  refine S.cal sc__law_twin bn__law_twin (fun vs H Q E h => ?_) (fun f cdv A outer s H vs Q E hr h => ?_)
  · first | (obtain ⟨rfl, _⟩ := h; rfl) | (obtain ⟨_, rfl, _⟩ := h; rfl) | (obtain ⟨_, _, rfl, _⟩ := h; rfl) | (obtain ⟨_, _, _, rfl, _⟩ := h; rfl) | (obtain ⟨_, _, _, _, rfl, _⟩ := h; rfl) | (obtain ⟨_, _, _, _, _, rfl, _⟩ := h; rfl) | (obtain ⟨_, _, _, _, _, _, rfl, _⟩ := h; rfl) | (obtain ⟨_, _, _, _, _, _, _, rfl, _⟩ := h; rfl) | (obtain ⟨_, _, _, _, _, _, _, _, rfl, _⟩ := h; rfl) | (obtain ⟨_, _, _, _, _, _, _, _, _, rfl, _⟩ := h; rfl) | (obtain ⟨_, _, _, _, _, _, _, _, _, _, rfl, _⟩ := h; rfl) | (obtain ⟨_, _, _, _, _, _, _, _, _, _, _, rfl, _⟩ := h; rfl) | (obtain ⟨_, _, _, _, _, _, _, _, _, _, _, _, rfl, _⟩ := h; rfl)
  · skip
    refine ⟨_, (pss_cons (ps_setLc (i := 1) (own := [("_law_row", 3)]) rfl sc__law_twin.nd rfl rfl (sw_true rfl rfl rfl (by decide +kernel)) (pi_list (pe_dget (hu_of hr) (pv 0) pe_str (fun _ _ => rfl))) (blkOk_by (N := N__law_twin) (sc := defScope s__law_twin) (by decide +kernel)) (fun _ _ _ _ _ => (pg_name (i := 3) sc__law_twin.nd rfl (Or.inl rfl))) (fun _ _ _ _ _ => pts_nil) (fun _ _ _ _ _ => (Fx.pe_cTy Fx.list_L T.b_list (by decide +kernel) (Fx.pa_c (pv 3) pa_nil))))
        (pss_cons (ps_setLc (i := 2) (own := [("_law_row", 3)]) rfl sc__law_twin.nd rfl rfl (sw_true rfl rfl rfl (by decide +kernel)) (pi_list (pe_dget (hu_of hr) (pv 0) pe_str (fun _ _ => rfl))) (blkOk_by (N := N__law_twin) (sc := defScope s__law_twin) (by decide +kernel)) (fun _ _ _ _ _ => (pg_name (i := 3) sc__law_twin.nd rfl (Or.inl rfl))) (fun _ _ _ _ _ => pts_nil) (fun _ _ _ _ _ => (Fx.pe_cTy Fx.list_L T.b_list (by decide +kernel) (Fx.pa_c (pv 3) pa_nil))))
        (pss_one (ps_ret (pe_disp (pps_cons pe_str (pe_dget (hu_of hr) (pv 0) pe_str (fun _ _ => rfl)) (pps_cons pe_str (Fx.pe_cTy Fx.list_L T.b_list (by decide +kernel) (Fx.pa_c (pe_dget (hu_of hr) (pv 0) pe_str (fun _ _ => rfl)) pa_nil)) (pps_cons pe_str (pv 1) (pps_cons pe_str (pv 2) pps_nil)))) (by rfl) (by rfl) (fun z => by cases z) (by decide)))))), ?_⟩
    obtain ⟨d0, C0, hol, P, mks, rfl, M, lP, lm, q⟩ := h
    refine seqI fun K1 k1 => ?_
    generalize hte : tCB rLstL (tCons (tVar 3) tNil) = te
    generalize hg : gName 3 = g
    generalize htt : tYes = tt
    walk_at "rd"
    unfold tLc
    walk_at "rd"
    refine ⟨_, M.gPar, _, rfl, ⟨_, .inl (.inl M.pp)⟩, fun D nD => ?_⟩
    refine lc_list (K := K) (a := C0.pp) (xs := C0.pa.map V.ref) (g := g) (tt := tt) (te := te) (vs := [3]) (σ := [some (.ref d0), none, none, none]) (fun i H' => ∃ pa, pa.length = i ∧ Rows H H' D pa (P.take i)) ⟨[], rfl, Rows.nil nD⟩ (fun i H' _ ⟨_, _, R⟩ => .inl (.inl (R.sm _ _ M.pp))) ?_ ?_
    · rintro i y H' hy ⟨pa, lp, R1⟩
      have hj := (List.getElem?_eq_some_iff.mp hy).1
      rw [List.length_map] at hj
      rw [List.getElem?_map, List.getElem?_eq_getElem hj] at hy
      cases hy
      have hjP : i < P.length := by rw [← M.lp]; exact hj
      have hrow := R1.sm _ _ (M.pa i _ _ (List.getElem?_eq_getElem hj) (List.getElem?_eq_getElem hjP))
      rw [← hte, ← hg, ← htt]
      refine ⟨rfl, ?_⟩
      walk_at "rd"
      refine ⟨_, hrow, fun l nl => ⟨_, same_new nl _ _ R1.h, by rw [List.length_map, lp]; exact Nat.lt_of_lt_of_le (by omega : _ < 100) (by decide), pa ++ [l], by rw [List.length_append, lp]; rfl, ?_⟩⟩
      rw [List.take_add_one, List.getElem?_eq_getElem hjP]
      exact R1.push (same_new nl) upd_same nl
    rintro H1 ⟨pa, lp, R1⟩
    clear hte hg htt
    rw [List.length_map, M.lp, List.take_length] at R1
    refine k1 _ _ ?_
    clear k1
    refine seqI fun K1 k1 => ?_
    generalize hte : tCB rLstL (tCons (tVar 3) tNil) = te
    generalize hg : gName 3 = g
    generalize htt : tYes = tt
    have M1 := M.same R1.sm
    walk_at "rd"
    unfold tLc
    walk_at "rd"
    refine ⟨_, M1.gMrk, _, rfl, ⟨_, .inl (.inl M1.mm)⟩, fun D2 nD2 => ?_⟩
    refine lc_list (K := K) (a := C0.mm) (xs := C0.ma.map V.ref) (g := g) (tt := tt) (te := te) (vs := [3]) (σ := [some (.ref d0), some (.ref D), none, none]) (fun i H' => ∃ ma, ma.length = i ∧ Rows H1 H' D2 ma ((mks.map srtN).take i)) ⟨[], rfl, Rows.nil nD2⟩ (fun i H' _ ⟨_, _, R⟩ => .inl (.inl (R.sm _ _ M1.mm))) ?_ ?_
    · rintro i y H' hy ⟨ma, lp, R2⟩
      have hj := (List.getElem?_eq_some_iff.mp hy).1
      rw [List.length_map] at hj
      rw [List.getElem?_map, List.getElem?_eq_getElem hj] at hy
      cases hy
      have hjP : i < mks.length := by rw [← M.lm]; exact hj
      have hrow := R2.sm _ _ (M1.ma i _ _ (List.getElem?_eq_getElem hj) (List.getElem?_eq_getElem hjP))
      rw [← hte, ← hg, ← htt]
      refine ⟨rfl, ?_⟩
      walk_at "rd"
      refine ⟨_, hrow, fun l nl => ⟨_, same_new nl _ _ R2.h, by rw [List.length_map, lp]; exact Nat.lt_of_lt_of_le (by omega : _ < 100) (by decide), ma ++ [l], by rw [List.length_append, lp]; rfl, ?_⟩⟩
      rw [List.take_add_one, List.getElem?_map, List.getElem?_eq_getElem hjP]
      exact R2.push (same_new nl) upd_same nl
    rintro H2 ⟨ma, lm2, R2⟩
    clear hte hg htt
    rw [List.length_map, M.lm, List.take_of_length_le (by rw [List.length_map]; exact Nat.le_refl _)] at R2
    refine k1 _ _ ?_
    clear k1
    have M2 := M1.same R2.sm
    walk_at "rd"
    intro dq ndq
    simp only [tPairs]
    walk_at "rd"
    have s3 := same_new (o := .dK []) ndq
    have M3 := M2.same s3
    refine ⟨_, M3.gMany, _, M3.gHol, _, rfl, _, M3.hl, fun qh nqh => ?_⟩
    have s4 := same_new (o := .lst (ni hol)) nqh
    have hd4 := s4 _ _ (upd_same (H := H2) (a := dq) (o := .dK []))
    refine ⟨hd4, modKV (hol.length - 1) ⟨qh, D, D2, pa, ma⟩, rfl, (show 4 ≤ 15 by decide), ?_⟩
    rw [show mergeK [] (modKV (hol.length - 1) ⟨qh, D, D2, pa, ma⟩) = modKV (hol.length - 1) ⟨qh, D, D2, pa, ma⟩ from rfl]
    have hh4 : (upd (upd H2 dq (.dK [])) qh (.lst (ni hol))) qh = some (.lst (ni hol)) := upd_same
    have R14 := ((R1.then R2.sm).then s3).then s4
    have R24 := (R2.then s3).then s4
    have nhp : qh ∉ D :: pa := fun z => by
      obtain ⟨xs, h⟩ := ((R1.then R2.sm).then s3).some z
      rw [nqh] at h
      cases h
    have nhm : qh ∉ D2 :: ma := fun z => by
      obtain ⟨xs, h⟩ := (R2.then s3).some z
      rw [nqh] at h
      cases h
    have n3 : ∀ a ∈ D :: pa, a ∉ D2 :: ma := fun a ha hb => by
      obtain ⟨xs, e⟩ := R1.some ha
      rw [R2.fr a hb] at e
      cases e
    have ndq2 := ndq
    have s24 := s3.trans s4
    have nqh2 := s3.free nqh
    generalize upd (upd H2 dq (.dK [])) qh (.lst (ni hol)) = H4 at hd4 hh4 R14 R24 s24
    have keep : ∀ {a : Addr} {xs : List V}, H4 a = some (.lst xs) → (upd H4 dq (.dK (modKV (hol.length - 1) ⟨qh, D, D2, pa, ma⟩))) a = some (.lst xs) := fun h => by
      rw [upd_ne (lst_ne_dk h hd4)]
      exact h
    have ndq1 := R2.sm.free ndq2
    have Mo_ := mk_mod (d := dq) (h := upd H4 dq (.dK (modKV (hol.length - 1) ⟨qh, D, D2, pa, ma⟩))) upd_same (keep hh4) (R14.dk hd4 (R1.sm.free ndq1)) (R24.dk hd4 ndq1) rfl nhp nhm n3
    refine q dq ⟨qh, D, D2, pa, ma⟩ _ (Same.put (R1.sm.trans (R2.sm.trans s24)) (R1.sm.free ndq1)) (fun a ha => ?_) Mo_
    rcases List.mem_cons.mp ha with rfl | ha
    · exact R1.sm.free ndq1
    simp only [Mo.own, List.mem_cons, List.mem_append] at ha
    rcases ha with rfl | rfl | rfl | h | h
    · exact (R1.sm.trans R2.sm).free nqh2
    · exact R14.fr _ List.mem_cons_self
    · exact R1.sm.free (R24.fr _ List.mem_cons_self)
    · exact R14.fr a (List.mem_cons_of_mem _ h)
    · exact R1.sm.free (R24.fr a (List.mem_cons_of_mem _ h))
end
section
variable {P : Program} {w : World} {K : PySem.W.Frag} {mg : Str → Option Value} {base : Heap}
theorem ok__law_inside (S : Src K mg "_law_inside" s__law_inside) (T : Tx P K mg)   : Cal P w K mg base CX0 1 "_law_inside" ["_law_model_here", "_law_thing", "_law_other"] spInside := by
  refine S.cal sc__law_inside bn__law_inside (fun vs H Q E h => ?_) (fun f cdv A outer s H vs Q E hr h => ?_)
  · first | (obtain ⟨rfl, _⟩ := h; rfl) | (obtain ⟨_, rfl, _⟩ := h; rfl) | (obtain ⟨_, _, rfl, _⟩ := h; rfl) | (obtain ⟨_, _, _, rfl, _⟩ := h; rfl) | (obtain ⟨_, _, _, _, rfl, _⟩ := h; rfl) | (obtain ⟨_, _, _, _, _, rfl, _⟩ := h; rfl) | (obtain ⟨_, _, _, _, _, _, rfl, _⟩ := h; rfl) | (obtain ⟨_, _, _, _, _, _, _, rfl, _⟩ := h; rfl) | (obtain ⟨_, _, _, _, _, _, _, _, rfl, _⟩ := h; rfl) | (obtain ⟨_, _, _, _, _, _, _, _, _, rfl, _⟩ := h; rfl) | (obtain ⟨_, _, _, _, _, _, _, _, _, _, rfl, _⟩ := h; rfl) | (obtain ⟨_, _, _, _, _, _, _, _, _, _, _, rfl, _⟩ := h; rfl) | (obtain ⟨_, _, _, _, _, _, _, _, _, _, _, _, rfl, _⟩ := h; rfl)
  · skip
    refine ⟨_, (pss_cons (ps_set (i := 3) sc__law_inside.nd rfl (Or.inl rfl) (pe_ix Fx.ix_L (pe_dget (hu_of hr) (pv 0) pe_str (fun _ _ => rfl)) (pv 2) (fun _ _ => rfl)))
        (pss_cons (ps_for PassesOwn.never rfl (pi_range1 rfl T.b_range (Fx.pa_c (pe_dget (hu_of hr) (pv 0) pe_str (fun _ _ => rfl)) pa_nil)) (pg_name (i := 4) sc__law_inside.nd rfl (Or.inl rfl)) (pss_cons (ps_if (pt_cmpR op_eq (pv 3) pe_int (nomark _)) (pss_one (ps_ret pe_bl)) pss_nil)
        (pss_cons (ps_if (pt_cmpR op_eq (pv 3) (pv 1) (nomark _)) (pss_one (ps_ret pe_bl)) pss_nil)
        (pss_one (ps_set (i := 3) sc__law_inside.nd rfl (Or.inl rfl) (pe_ix Fx.ix_L (pe_dget (hu_of hr) (pv 0) pe_str (fun _ _ => rfl)) (pv 3) (fun _ _ => rfl)))))))
        (pss_one (ps_ret pe_bl)))), ?_⟩
    obtain ⟨d, C, T, P, i, j, rfl, M, ok, hi, hj, q⟩ := h
    refine seqI fun K1 k1 => ?_
    walk_at "rd"
    refine ⟨_, M.gHol, _, rfl, _, M.hl, _, ni_at (by rw [ok.lh]; omega), k1 _ _ ?_⟩
    clear k1
    refine seqI fun K0 k0 => ?_
    refine forI fun R0 hR => ?_
    walk_at "rd"
    refine ⟨_, M.gMany, _, rfl, by omega, by have := ok.n60; unfold Tr.n at this; omega, hR _ _ ?_⟩
    clear hR
    rw [Int.toNat_natCast]
    obtain ⟨res, eres⟩ : ∃ res, res = inside T.hol i T.n (T.hol.getD j 0) := ⟨_, rfl⟩
    rw [← eres] at q
    refine for_range (lo := 0) (n := T.n) (fun k σ H' => ∃ (at_ : Nat) (v : Option V), σ = [some (.ref d), some (.int (i : Nat)), some (.int (j : Nat)), some (.int (at_ : Nat)), v] ∧ H' = H ∧ at_ ≤ T.n ∧ inside T.hol i (T.n - k) at_ = res) ⟨_, none, rfl, rfl, getD_le ok.vh, eres.symm⟩ ?_ ?_
    · rintro k σ H' hk ⟨at_, v, rfl, rfl, ha, he⟩
      obtain ⟨m, em⟩ : ∃ m, T.n - k = m + 1 := ⟨T.n - k - 1, by omega⟩
      rw [em] at he
      unfold inside at he
      refine seqI fun K1 k1 => ?_
      walk_at "rd"
      by_cases g : at_ = 0
      · rw [if_pos (by omega)]
        rw [if_pos g] at he
        rw [← he] at q
        exact q
      rw [if_neg (by omega)]
      rw [if_neg g] at he
      refine k1 _ _ ?_
      clear k1
      refine seqI fun K1 k1 => ?_
      walk_at "rd"
      by_cases g2 : at_ = i
      · rw [if_pos (by omega)]
        rw [if_pos g2] at he
        rw [← he] at q
        exact q
      rw [if_neg (by omega)]
      rw [if_neg g2] at he
      refine k1 _ _ ?_
      clear k1
      walk_at "rd"
      exact ⟨_, M.gHol, _, rfl, _, M.hl, _, ni_at (by rw [ok.lh]; omega), _, rfl, getD_le ok.vh, by rw [show T.n - (k + 1) = m by omega]; exact he⟩
    rintro σ H' ⟨at_, v, rfl, rfl, ha, he⟩
    refine k0 _ _ ?_
    walk_at "rd"
    rw [Nat.sub_self] at he
    rw [← he] at q
    exact q
end
section
variable {P : Program} {w : World} {K : PySem.W.Frag} {mg : Str → Option Value} {base : Heap}
theorem ok__law_moved (S : Src K mg "_law_moved" s__law_moved) (T : Tx P K mg) (C__law_inside : Cal P w K mg base CX0 1 "_law_inside" ["_law_model_here", "_law_thing", "_law_other"] spInside)  : Cal P w K mg base CX0 2 "_law_moved" ["_law_model_here", "_law_thing", "_law_holder"] spMoved := by
  refine S.cal sc__law_moved bn__law_moved (fun vs H Q E h => ?_) (fun f cdv A outer s H vs Q E hr h => ?_)
  · first | (obtain ⟨rfl, _⟩ := h; rfl) | (obtain ⟨_, rfl, _⟩ := h; rfl) | (obtain ⟨_, _, rfl, _⟩ := h; rfl) | (obtain ⟨_, _, _, rfl, _⟩ := h; rfl) | (obtain ⟨_, _, _, _, rfl, _⟩ := h; rfl) | (obtain ⟨_, _, _, _, _, rfl, _⟩ := h; rfl) | (obtain ⟨_, _, _, _, _, _, rfl, _⟩ := h; rfl) | (obtain ⟨_, _, _, _, _, _, _, rfl, _⟩ := h; rfl) | (obtain ⟨_, _, _, _, _, _, _, _, rfl, _⟩ := h; rfl) | (obtain ⟨_, _, _, _, _, _, _, _, _, rfl, _⟩ := h; rfl) | (obtain ⟨_, _, _, _, _, _, _, _, _, _, rfl, _⟩ := h; rfl) | (obtain ⟨_, _, _, _, _, _, _, _, _, _, _, rfl, _⟩ := h; rfl) | (obtain ⟨_, _, _, _, _, _, _, _, _, _, _, _, rfl, _⟩ := h; rfl)
  · skip
    refine ⟨_, (pss_cons (ps_if (PW.pt (pw_or (pt_cmpR op_eq (pv 1) pe_int (nomark _)) (pw_or (pt_cmpR op_eq (pv 1) (pv 2) (nomark _)) (pw_or1 (pt_val (Fx.pe_cal C__law_inside (hr.mono (by decide)) pass0 (Fx.pa_c (pv 0) (Fx.pa_c (pv 1) (Fx.pa_c (pv 2) pa_nil))))))))) (pss_one ps_retN) pss_nil)
        (pss_cons (ps_expr (pe_bm PySem.F.plainAttrs_list PySem.F.slot_list_remove PySem.F.type_list_remove mt_remove (pe_ix Fx.ix_L (pe_dget (hu_of hr) (pv 0) pe_str (fun _ _ => rfl)) (pe_ix Fx.ix_L (pe_dget (hu_of hr) (pv 0) pe_str (fun _ _ => rfl)) (pv 1) (fun _ _ => rfl)) (fun _ _ => rfl)) (Fx.pa_c (pv 1) pa_nil)))
        (pss_cons (ps_asg (pv 2) (pg_sub (pe_dget (hu_of hr) (pv 0) pe_str (fun _ _ => rfl)) (pv 1) set_list))
        (pss_one (ps_expr (pe_bm PySem.F.plainAttrs_list PySem.F.slot_list_insert PySem.F.type_list_insert Fx.mt_ins (pe_ix Fx.ix_L (pe_dget (hu_of hr) (pv 0) pe_str (fun _ _ => rfl)) (pv 2) (fun _ _ => rfl)) (Fx.pa_c pe_int (Fx.pa_c (pv 1) pa_nil)))))))), ?_⟩
    obtain ⟨d, C, T, P, i, h, rfl, M, ok, F, hi, hh, q1, q2⟩ := h
    refine seqI fun K0 k0 => ?_
    refine ifI fun A2 B2 ka kb => ?_
    walk_at "rd"
    by_cases i0 : i = 0
    · rw [if_pos (by omega)]
      refine ka _ ?_
      walk_at "rd"
      exact q1 (by simp [stays, i0])
    rw [if_neg (by omega)]
    by_cases ih : i = h
    · rw [if_pos (by omega)]
      refine ka _ ?_
      walk_at "rd"
      exact q1 (by rw [stays, decide_eq_true ih, Bool.or_true, Bool.true_or])
    rw [if_neg (by omega)]
    refine ⟨d, C, T, P, i, h, rfl, M, ok, hi, hh, _, rfl, ?_⟩
    cases no : inside T.hol i T.n (T.hol.getD h 0) with
    | true =>
      rw [if_pos rfl]
      refine ka _ ?_
      walk_at "rd"
      exact q1 (by rw [stays, no, Bool.or_true])
    | false =>
    rw [if_neg (by decide)]
    refine kb _ (k0 _ _ ?_)
    have q2 := q2 (by rw [stays, no, decide_eq_false i0, decide_eq_false ih]; rfl)
    clear ka kb k0 q1
    have ho : T.hol.getD i 0 ≤ T.n := getD_le ok.vh
    have hio : i ∈ P.getD (T.hol.getD i 0) [] := (F.mem _ i ho).mpr ⟨by omega, hi, rfl⟩
    generalize eo : T.hol.getD i 0 = o at ho hio
    obtain ⟨a, c, eP⟩ := List.append_of_mem hio
    have nd := nodup_row F o
    obtain ⟨ra, era, ha, hra⟩ := M.row (i := o) (by rw [F.len]; omega)
    refine seqI fun K1 k1 => ?_
    walk_at "rd"
    refine ⟨_, M.gPar, _, M.gHol, _, rfl, _, M.hl, _, ni_at (by rw [ok.lh]; omega), _, rfl, _, rfl, _, M.pp, _, by rw [eo]; exact ha, tyL hra, ?_⟩
    refine ⟨ra, (P.getD o []).map fun n => ((n : Nat) : Int), i, a.length, rfl, rfl, by rw [hra, List.map_map]; rfl, ?_, fun m hm => ?_, k1 _ _ ?_⟩
    · rw [eP, List.getElem?_map]
      simp
    · rw [List.getElem?_map, eP, List.getElem?_append_left hm, List.getElem?_eq_getElem hm]
      rw [eP] at nd
      intro z
      have z : ((a[m] : Nat) : Int) = (i : Nat) := Option.some.inj z
      have : a[m] = i := by omega
      exact (List.nodup_append.mp nd).2.2 i (by rw [← this]; exact List.getElem_mem hm) i List.mem_cons_self rfl
    clear k1
    have e1 : (((P.getD o []).map fun n => ((n : Nat) : Int)).eraseIdx a.length).map V.int = ni ((P.getD o []).erase i) := by
      rw [eP] at nd ⊢
      rw [erase_mid nd, List.map_append, List.eraseIdx_append_of_length_le (by rw [List.length_map]; exact Nat.le_refl _), List.length_map, Nat.sub_self, List.map_cons, List.eraseIdx_cons_zero, ← List.map_append, List.map_map]
      rfl
    rw [e1]
    have M1 := M.sRow era ((P.getD o []).erase i)
    have k1 : Kf (fun a => a ∈ C.own) H (upd H ra (.lst (ni ((P.getD o []).erase i)))) := Kf.upd Kf.refl (by have := List.mem_of_getElem? era; simp [Mo.own, this]) _
    generalize upd H ra (.lst (ni ((P.getD o []).erase i))) = H1 at M1 k1
    obtain ⟨P1, eP1⟩ : ∃ P1, P1 = P.set o ((P.getD o []).erase i) := ⟨_, rfl⟩
    have eM : movedP P o h i = P1.set h (i :: P1.getD h []) := by rw [eP1]; rfl
    rw [← eP1] at M1
    rw [eo, eM] at q2
    refine seqI fun K2 k2 => ?_
    walk_at "rd"
    refine ⟨_, M1.gHol, _, rfl, _, M1.hl, i, ix_ni (by rw [ok.lh]; omega), k2 _ _ ?_⟩
    clear k2
    rw [ni_set]
    have M2 := M1.sHol (T.hol.set i h) (List.length_set ..)
    have kf2 := Kf.upd k1 (D := C.hl) (by simp [Mo.own]) (.lst (ni (T.hol.set i h)))
    generalize upd H1 C.hl (.lst (ni (T.hol.set i h))) = H2 at M2 kf2
    obtain ⟨rb, erb, hb, hrb⟩ := M2.row (i := h) (by rw [eP1, List.length_set, F.len]; omega)
    walk_at "rd"
    refine ⟨_, M2.gPar, _, rfl, _, M2.pp, _, hb, tyL hrb, _, rfl, _, hrb, ?_, by decide, by decide, ?_⟩
    · rw [ni_len]
      refine Nat.lt_of_le_of_lt (m := 61) ?_ (by decide)
      have n60 := ok.n60
      have h1 : (P1.getD h []).length ≤ (P.getD h []).length := by
        rw [eP1, getDL_set]
        split
        · rename_i e
          rw [← e.1]
          exact List.length_erase_le ..
        · exact Nat.le_refl _
      have h2 := nodup_lt (nodup_row F h) (n := T.n + 1) fun z hz => by have := ((F.mem h z hh).mp hz).2.1; omega
      omega
    have M3 := M2.sRow erb (i :: P1.getD h [])
    exact q2 _ (Kf.upd kf2 (D := rb) (by have := List.mem_of_getElem? erb; simp [Mo.own, this]) _) M3
end
section
variable {P : Program} {w : World} {K : PySem.W.Frag} {mg : Str → Option Value} {base : Heap}
theorem ok__law_marked (S : Src K mg "_law_marked" s__law_marked) (T : Tx P K mg)   : Cal P w K mg base CX0 1 "_law_marked" ["_law_model_here", "_law_thing", "_law_mark", "_law_given"] spMarked := by
  refine S.cal sc__law_marked bn__law_marked (fun vs H Q E h => ?_) (fun f cdv A outer s H vs Q E hr h => ?_)
  · first | (obtain ⟨rfl, _⟩ := h; rfl) | (obtain ⟨_, rfl, _⟩ := h; rfl) | (obtain ⟨_, _, rfl, _⟩ := h; rfl) | (obtain ⟨_, _, _, rfl, _⟩ := h; rfl) | (obtain ⟨_, _, _, _, rfl, _⟩ := h; rfl) | (obtain ⟨_, _, _, _, _, rfl, _⟩ := h; rfl) | (obtain ⟨_, _, _, _, _, _, rfl, _⟩ := h; rfl) | (obtain ⟨_, _, _, _, _, _, _, rfl, _⟩ := h; rfl) | (obtain ⟨_, _, _, _, _, _, _, _, rfl, _⟩ := h; rfl) | (obtain ⟨_, _, _, _, _, _, _, _, _, rfl, _⟩ := h; rfl) | (obtain ⟨_, _, _, _, _, _, _, _, _, _, rfl, _⟩ := h; rfl) | (obtain ⟨_, _, _, _, _, _, _, _, _, _, _, rfl, _⟩ := h; rfl) | (obtain ⟨_, _, _, _, _, _, _, _, _, _, _, _, rfl, _⟩ := h; rfl)
  · skip
    refine ⟨_, (pss_cons (ps_if (pt_cmpR op_eq (pv 1) pe_int (nomark _)) (pss_one ps_retN) pss_nil)
        (pss_cons (ps_setLc (i := 4) (own := [("_law_one", 5)]) rfl sc__law_marked.nd rfl rfl (sw_true rfl rfl rfl (by decide +kernel)) (pi_list (pe_ix Fx.ix_L (pe_dget (hu_of hr) (pv 0) pe_str (fun _ _ => rfl)) (pv 1) (fun _ _ => rfl))) (blkOk_by (N := N__law_marked) (sc := defScope s__law_marked) (by decide +kernel)) (fun _ _ _ _ _ => (pg_name (i := 5) sc__law_marked.nd rfl (Or.inl rfl))) (fun _ _ _ _ _ => (pts_one (pt_cmpR op_ne (pv 5) (pv 2) (nomark _)))) (fun _ _ _ _ _ => (pv 5)))
        (pss_one (ps_asg (Fx.pe_cB cr_sortedI T.b_sorted (by decide +kernel) (Fx.pa_c (pe_op op_cat (pv 4) (pe_op op_rep (pe_lst (Fx.pa_c (pv 2) pa_nil)) (pv 3))) pa_nil)) (pg_sub (pe_dget (hu_of hr) (pv 0) pe_str (fun _ _ => rfl)) (pv 1) set_list))))), ?_⟩
    obtain ⟨d, C, T, P, i, j, g, rfl, M, G, hi, hj, hg, q⟩ := h
    have ok := G.ok
    refine seqI fun K0 k0 => ?_
    refine ifI fun A2 B2 ka kb => ?_
    walk_at "rd"
    by_cases i0 : i = 0
    · rw [if_pos (by omega)]
      refine ka _ ?_
      walk_at "rd"
      have e : T.mks.set i (setMarkL i j g (T.mks.getD i [])) = T.mks := by
        rw [i0, G.m0]
        have e2 : setMarkL 0 j g [] = [] := by
          unfold setMarkL
          split
          · rfl
          · exact if_pos (.inl rfl)
        rw [e2]
        have := setD_self (l := T.mks) (i := 0) (by rw [ok.lm]; omega)
        rw [G.m0] at this
        exact this
      rw [e] at q
      exact q C H Kf.refl (fun a h => .inl h) M
    rw [if_neg (by omega)]
    refine kb _ (k0 _ _ ?_)
    clear ka kb k0
    have hi2 : i < T.mks.length := by rw [ok.lm]; omega
    obtain ⟨ra, era, ha, hra⟩ := M.mrk (i := i) hi2
    refine seqI fun K1 k1 => ?_
    generalize hte : tVar 5 = te
    generalize hg : gName 5 = g5
    generalize htt : tTest (tOp rNe te (tVar 2)) = tt
    walk_at "rd"
    unfold tLc
    walk_at "rd"
    refine ⟨_, M.gMrk, _, rfl, _, M.mm, _, ha, _, rfl, ⟨_, .inl (.inl hra)⟩, fun D nD => ?_⟩
    have l32 := nodup_lt (ok.vm _ (List.getElem_mem hi2)).1 (ok.vm _ (List.getElem_mem hi2)).2
    have el : T.mks.getD i [] = T.mks[i] := by rw [List.getD_eq_getElem?_getD, List.getElem?_eq_getElem hi2]; rfl
    rw [← el] at l32
    have ls : (srtN (T.mks.getD i [])).length ≤ 32 := by rw [(srtN_perm _).length_eq]; exact l32
    refine lc_list (K := K) (a := ra) (xs := ni (srtN (T.mks.getD i []))) (g := g5) (tt := tt) (te := te) (vs := [5]) (σ := [some (.ref d), some (.int (i : Nat)), some (.int (j : Nat)), some (.int (g : Nat)), none, none]) (fun k H' => H' D = some (.lst (ni (stripL j ((srtN (T.mks.getD i [])).take k)))) ∧ Same H H') ⟨upd_same, same_new nD⟩ (fun k H' _ ⟨_, s⟩ => .inl (.inl (s _ _ hra))) ?_ ?_
    · rintro k y H1 hy ⟨hD, s1⟩
      have hk := (List.getElem?_eq_some_iff.mp hy).1
      rw [ni_len] at hk
      rw [ni_get hk] at hy
      cases hy
      have et := take_getD hk
      rw [← htt, ← hte, ← hg]
      refine ⟨rfl, ?_⟩
      walk_at "rd"
      rw [et, strip_app, strip_one]
      refine ite_i (fun e => ?_) (fun e => ?_)
      · rw [if_pos (by omega), List.append_nil]
        exact ⟨hD, s1⟩
      · rw [if_neg (by omega), ni_app]
        refine ⟨_, hD, ?_, rfl, Same.put s1 nD⟩
        rw [ni_len]
        have := strip_len j ((srtN (T.mks.getD i [])).take k)
        rw [List.length_take] at this
        exact Nat.lt_of_lt_of_le (by omega : _ < 100) (by decide)
    rintro H1 ⟨hD, s1⟩
    clear htt hte hg
    rw [ni_len, List.take_length] at hD
    refine k1 _ _ ?_
    clear k1
    have M1 := M.same s1
    walk_at "rd"
    refine ⟨by decide, fun l0 nl0 => ⟨by omega, by omega, ?_, fun l1 nl1 => ?_⟩⟩
    · exact Nat.le_trans (by omega : _ ≤ 100) (by decide)
    rw [rep_flat1]
    have s2 := same_new (o := .lst [.int (j : Nat)]) nl0
    have s3 := s2.trans (same_new (o := .lst (ni (List.replicate g j))) nl1)
    have hl3 : (upd (upd H1 l0 (.lst [.int (j : Nat)])) l1 (.lst (ni (List.replicate g j)))) l1 = some (.lst (ni (List.replicate g j))) := upd_same
    generalize upd (upd H1 l0 (.lst [.int (j : Nat)])) l1 (.lst (ni (List.replicate g j))) = H3 at s3 hl3
    have hD3 := s3 _ _ hD
    have M3 := M1.same s3
    have ls2 := strip_len j (srtN (T.mks.getD i []))
    refine ⟨_, hD3, ?_, fun p np => ?_⟩
    · rw [ni_len, ni_len, List.length_replicate]
      exact Nat.le_trans (by omega : _ ≤ 100) (by decide)
    rw [← ni_app]
    refine ⟨p, _, rfl, .inl (.inl (by rw [upd_same, ni_int])), fun ns q0 pm pw nq0 => ?_⟩
    have ev : ns.map V.int = ni (srtN (setMarkL i j g (T.mks.getD i []))) := by
      rw [srt_int pm pw, ← ni_int, ← marks_srt (ok.vm _ (by rw [el]; exact List.getElem_mem hi2)).1 i0 hg]
    rw [ev]
    have s4 := s3.trans (same_new (o := .lst (ni (stripL j (srtN (T.mks.getD i [])) ++ List.replicate g j))) np)
    have s5 := s4.trans (same_new (o := .lst (ni (srtN (setMarkL i j g (T.mks.getD i []))))) nq0)
    have hq5 : (upd (upd H3 p (.lst (ni (stripL j (srtN (T.mks.getD i [])) ++ List.replicate g j)))) q0 (.lst (ni (srtN (setMarkL i j g (T.mks.getD i [])))))) q0 = some (.lst (ni (srtN (setMarkL i j g (T.mks.getD i []))))) := upd_same
    have nq00 := (s1.trans s4).free nq0
    have s5 := s1.trans s5
    show ∃ _, _
    generalize upd (upd H3 p (.lst (ni (stripL j (srtN (T.mks.getD i [])) ++ List.replicate g j)))) q0 (.lst (ni (srtN (setMarkL i j g (T.mks.getD i []))))) = H5 at s5 hq5
    have M5 := M.same s5
    have nown : q0 ∉ C.own := fun z => by
      obtain ⟨xs, h⟩ := M.lst z
      rw [nq00] at h
      cases h
    refine ⟨_, M5.gMrk, _, rfl, _, M5.mm, i, ?_, ?_⟩
    · rw [List.length_map, M.lm]
      exact ixN_nat hi2
    have M6 := M5.sMk hi2 hq5 nown
    have e1 : (C.ma.map V.ref).set i (.ref q0) = (C.ma.set i q0).map V.ref := List.map_set.symm
    rw [e1]
    refine q _ _ (Kf.upd (.of s5) (by simp [Mo.own]) _) (fun a ha => ?_) M6
    have ha : a ∈ C.hl :: C.pp :: C.mm :: (C.pa ++ C.ma.set i q0) := ha
    simp only [List.mem_cons, List.mem_append] at ha
    simp only [Mo.own, List.mem_cons, List.mem_append]
    rcases ha with h | h | h | h | h
    · exact .inl (.inl h)
    · exact .inl (.inr (.inl h))
    · exact .inl (.inr (.inr (.inl h)))
    · exact .inl (.inr (.inr (.inr (.inl h))))
    · rcases List.mem_or_eq_of_mem_set h with h | h
      · exact .inl (.inr (.inr (.inr (.inr h))))
      · rw [h]
        exact .inr nq00
end
section
variable {P : Program} {w : World} {K : PySem.W.Frag} {mg : Str → Option Value} {base : Heap}
theorem ok__law_beside (S : Src K mg "_law_beside" s__law_beside) (T : Tx P K mg)   : Cal P w K mg base CX0 1 "_law_beside" ["_law_model_here", "_law_thing"] spLBeside := by
  refine S.cal sc__law_beside bn__law_beside (fun vs H Q E h => ?_) (fun f cdv A outer s H vs Q E hr h => ?_)
  · first | (obtain ⟨rfl, _⟩ := h; rfl) | (obtain ⟨_, rfl, _⟩ := h; rfl) | (obtain ⟨_, _, rfl, _⟩ := h; rfl) | (obtain ⟨_, _, _, rfl, _⟩ := h; rfl) | (obtain ⟨_, _, _, _, rfl, _⟩ := h; rfl) | (obtain ⟨_, _, _, _, _, rfl, _⟩ := h; rfl) | (obtain ⟨_, _, _, _, _, _, rfl, _⟩ := h; rfl) | (obtain ⟨_, _, _, _, _, _, _, rfl, _⟩ := h; rfl) | (obtain ⟨_, _, _, _, _, _, _, _, rfl, _⟩ := h; rfl) | (obtain ⟨_, _, _, _, _, _, _, _, _, rfl, _⟩ := h; rfl) | (obtain ⟨_, _, _, _, _, _, _, _, _, _, rfl, _⟩ := h; rfl) | (obtain ⟨_, _, _, _, _, _, _, _, _, _, _, rfl, _⟩ := h; rfl) | (obtain ⟨_, _, _, _, _, _, _, _, _, _, _, _, rfl, _⟩ := h; rfl)
  · skip
    refine ⟨_, (pss_cons (ps_set (i := 2) sc__law_beside.nd rfl (Or.inl rfl) (pe_ix Fx.ix_L (pe_dget (hu_of hr) (pv 0) pe_str (fun _ _ => rfl)) (pv 1) (fun _ _ => rfl)))
        (pss_cons (ps_if (PW.pt (pw_or (pt_cmpR op_eq (pv 1) pe_int (nomark _)) (pw_or1 (pt_cmpR op_eq (pv 2) pe_int (nomark _))))) (pss_one (ps_ret pe_int)) pss_nil)
        (pss_cons (ps_set (i := 3) sc__law_beside.nd rfl (Or.inl rfl) (pe_op op_cat (pe_ix Fx.ix_L (pe_dget (hu_of hr) (pv 0) pe_str (fun _ _ => rfl)) (pv 2) (fun _ _ => rfl)) (pe_lst (Fx.pa_c pe_int pa_nil))))
        (pss_one (ps_ret (pe_ix Fx.ix_L (pv 3) (pe_op op_add (pe_bm PySem.F.plainAttrs_list PySem.F.slot_list_index PySem.F.type_list_index mt_index (pv 3) (Fx.pa_c (pv 1) pa_nil)) pe_int) (fun _ _ => rfl))))))), ?_⟩
    obtain ⟨d, C, T, P, i, rfl, M, G, hi, q⟩ := h
    have ok := G.ok
    have F := G.fo
    refine seqI fun K1 k1 => ?_
    walk_at "rd"
    refine ⟨_, M.gHol, _, rfl, _, M.hl, _, ni_at (by rw [ok.lh]; omega), k1 _ _ ?_⟩
    clear k1
    refine seqI fun K0 k0 => ?_
    refine ifI fun A2 B2 ka kb => ?_
    walk_at "rd"
    by_cases i0 : i = 0
    · rw [if_pos (by omega)]
      refine ka _ ?_
      walk_at "rd"
      have := q H (Same.refl H)
      rw [F.b0 i hi (by rw [i0]; exact F.h0)] at this
      exact this
    rw [if_neg (by omega)]
    generalize eh : T.hol.getD i 0 = g
    by_cases g0 : g = 0
    · rw [if_pos (by omega)]
      refine ka _ ?_
      walk_at "rd"
      have := q H (Same.refl H)
      rw [F.b0 i hi (by rw [eh, g0])] at this
      exact this
    rw [if_neg (by omega)]
    refine kb _ (k0 _ _ ?_)
    clear ka kb k0
    have hg : g ≤ T.n := by rw [← eh]; exact getD_le ok.vh
    obtain ⟨ra, _, ha, hl⟩ := M.row (i := g) (by rw [F.len]; omega)
    rw [← eh] at ha
    refine seqI fun K1 k1 => ?_
    walk_at "rd"
    have hig : i ∈ P.getD g [] := (F.mem g i hg).mpr ⟨by omega, hi, eh⟩
    obtain ⟨a, c, eP⟩ := List.append_of_mem hig
    have nd := nodup_row F g
    have lP := nodup_lt nd (n := T.n + 1) fun z hz => by have := ((F.mem g z hg).mp hz).2.1; omega
    have n60 := ok.n60
    rw [eP] at nd hl lP
    refine ⟨_, M.gPar, _, rfl, _, M.pp, _, ha, by decide, fun q0 n0 => ⟨_, rfl, _, same_new n0 _ _ hl, ?_, fun q1 n1 => k1 _ _ ?_⟩⟩
    · rw [ni_len]
      exact Nat.le_trans (by omega : _ ≤ 100) (by decide)
    clear k1
    have s1 := same_new (o := .lst (ni [0])) n0
    rw [ni0, ← ni_app]
    have s2 := s1.trans (same_new (o := .lst (ni (a ++ i :: c ++ [0]))) n1)
    have h2 : (upd (upd H q0 (.lst (ni [0]))) q1 (.lst (ni (a ++ i :: c ++ [0])))) q1 = some (.lst (ni (a ++ i :: c ++ [0]))) := upd_same
    generalize upd (upd H q0 (.lst (ni [0]))) q1 (.lst (ni (a ++ i :: c ++ [0]))) = H2 at s2 h2
    have ch := chain_mid (eP ▸ F.ch g (by omega) hg)
    have q := q H2 s2
    rw [← chain_first ch] at q
    walk_at "rd"
    refine ⟨tyL h2, ?_⟩
    refine ⟨q1, ni (a ++ i :: c ++ [0]), .int (i : Nat), a.length, .int (i : Nat), rfl, rfl, .inl (.inl h2), rfl, flat_ni _, ?_, ?_, fun m z hm hz => ?_, ?_⟩
    · rw [ni_get (by simp), List.getD_eq_getElem?_getD, List.append_assoc, List.getElem?_append_right (Nat.le_refl _), Nat.sub_self]
      rfl
    · show decide _ = true
      exact decide_eq_true rfl
    · rw [ni_get (by simp; omega), List.getD_eq_getElem?_getD, List.append_assoc, List.getElem?_append_left hm, List.getElem?_eq_getElem hm] at hz
      cases hz
      show decide _ = false
      refine decide_eq_false fun z => (List.nodup_append.mp nd).2.2 i ?_ i List.mem_cons_self rfl
      have : a[m] = i := by simp at z; omega
      rw [← this]
      exact List.getElem_mem hm
    walk_at "rd"
    rw [show ((a.length : Nat) : Int) + 1 = ((a.length + 1 : Nat) : Int) by omega]
    refine ⟨_, h2, _, ni_at (by simp), ?_⟩
    rw [getD_mid]
    exact q
end
section
variable {P : Program} {w : World} {K : PySem.W.Frag} {mg : Str → Option Value} {base : Heap}
theorem ok__law_parts (S : Src K mg "_law_parts" s__law_parts) (T : Tx P K mg)   : Cal P w K mg base CX0 1 "_law_parts" ["_law_model_here", "_law_thing"] spLParts := by
  refine S.cal sc__law_parts bn__law_parts (fun vs H Q E h => ?_) (fun f cdv A outer s H vs Q E hr h => ?_)
  · first | (obtain ⟨rfl, _⟩ := h; rfl) | (obtain ⟨_, rfl, _⟩ := h; rfl) | (obtain ⟨_, _, rfl, _⟩ := h; rfl) | (obtain ⟨_, _, _, rfl, _⟩ := h; rfl) | (obtain ⟨_, _, _, _, rfl, _⟩ := h; rfl) | (obtain ⟨_, _, _, _, _, rfl, _⟩ := h; rfl) | (obtain ⟨_, _, _, _, _, _, rfl, _⟩ := h; rfl) | (obtain ⟨_, _, _, _, _, _, _, rfl, _⟩ := h; rfl) | (obtain ⟨_, _, _, _, _, _, _, _, rfl, _⟩ := h; rfl) | (obtain ⟨_, _, _, _, _, _, _, _, _, rfl, _⟩ := h; rfl) | (obtain ⟨_, _, _, _, _, _, _, _, _, _, rfl, _⟩ := h; rfl) | (obtain ⟨_, _, _, _, _, _, _, _, _, _, _, rfl, _⟩ := h; rfl) | (obtain ⟨_, _, _, _, _, _, _, _, _, _, _, _, rfl, _⟩ := h; rfl)
  · skip
    refine ⟨_, (pss_cons (ps_if (pt_cmpR op_eq (pv 1) pe_int (nomark _)) (pss_one (ps_ret (pe_lst pa_nil))) pss_nil)
        (pss_one (ps_ret (Fx.pe_cTy Fx.list_L T.b_list (by decide +kernel) (Fx.pa_c (pe_ix Fx.ix_L (pe_dget (hu_of hr) (pv 0) pe_str (fun _ _ => rfl)) (pv 1) (fun _ _ => rfl)) pa_nil))))), ?_⟩
    obtain ⟨d, C, T, P, i, rfl, M, G, hi, q⟩ := h
    refine seqI fun K1 k1 => ?_
    walk_at "rd"
    refine ite_i (fun e => ⟨Nat.zero_le _, fun p np => ?_⟩) (fun e => k1 _ _ ?_)
    · have e : i = 0 := by omega
      exact q p _ (same_new np) np (by rw [upd_same, partsOf, if_pos e]; rfl)
    clear k1
    obtain ⟨a, _, ha, hl⟩ := M.row (i := i) (by rw [G.fo.len]; omega)
    walk_at "rd"
    refine ⟨_, M.gPar, _, rfl, _, M.pp, _, ha, _, rfl, _, hl, fun p np => q p _ (same_new np) np ?_⟩
    rw [upd_same, partsOf, if_neg (by omega)]
end
section
variable {P : Program} {w : World} {K : PySem.W.Frag} {mg : Str → Option Value} {base : Heap}
theorem ok__law_place (S : Src K mg "_law_place" s__law_place) (T : Tx P K mg)   : Cal P w K mg base CX0 1 "_law_place" ["_law_model_here", "_law_thing"] spLPlace := by
  refine S.cal sc__law_place bn__law_place (fun vs H Q E h => ?_) (fun f cdv A outer s H vs Q E hr h => ?_)
  · first | (obtain ⟨rfl, _⟩ := h; rfl) | (obtain ⟨_, rfl, _⟩ := h; rfl) | (obtain ⟨_, _, rfl, _⟩ := h; rfl) | (obtain ⟨_, _, _, rfl, _⟩ := h; rfl) | (obtain ⟨_, _, _, _, rfl, _⟩ := h; rfl) | (obtain ⟨_, _, _, _, _, rfl, _⟩ := h; rfl) | (obtain ⟨_, _, _, _, _, _, rfl, _⟩ := h; rfl) | (obtain ⟨_, _, _, _, _, _, _, rfl, _⟩ := h; rfl) | (obtain ⟨_, _, _, _, _, _, _, _, rfl, _⟩ := h; rfl) | (obtain ⟨_, _, _, _, _, _, _, _, _, rfl, _⟩ := h; rfl) | (obtain ⟨_, _, _, _, _, _, _, _, _, _, rfl, _⟩ := h; rfl) | (obtain ⟨_, _, _, _, _, _, _, _, _, _, _, rfl, _⟩ := h; rfl) | (obtain ⟨_, _, _, _, _, _, _, _, _, _, _, _, rfl, _⟩ := h; rfl)
  · skip
    refine ⟨_, (pss_cons (ps_set (i := 2) sc__law_place.nd rfl (Or.inl rfl) (pv 1))
        (pss_cons (ps_for PassesOwn.never rfl (pi_range1 rfl T.b_range (Fx.pa_c (pe_dget (hu_of hr) (pv 0) pe_str (fun _ _ => rfl)) pa_nil)) (pg_name (i := 3) sc__law_place.nd rfl (Or.inl rfl)) (pss_one (ps_if (pt_cmpR op_ne (pe_ix Fx.ix_L (pe_dget (hu_of hr) (pv 0) pe_str (fun _ _ => rfl)) (pv 2) (fun _ _ => rfl)) pe_int (nomark _)) (pss_one (ps_set (i := 2) sc__law_place.nd rfl (Or.inl rfl) (pe_ix Fx.ix_L (pe_dget (hu_of hr) (pv 0) pe_str (fun _ _ => rfl)) (pv 2) (fun _ _ => rfl)))) pss_nil)))
        (pss_one (ps_ret (pv 2))))), ?_⟩
    obtain ⟨d, C, T, P, i, rfl, M, G, hi, q⟩ := h
    have ok := G.ok
    refine seqI fun K1 k1 => ?_
    walk_at "rd"
    refine k1 _ _ ?_
    clear k1
    refine seqI fun K0 k0 => ?_
    refine forI fun R0 hR => ?_
    walk_at "rd"
    refine ⟨_, M.gMany, _, rfl, by omega, by have := ok.n60; unfold Tr.n at this; omega, hR _ _ ?_⟩
    clear hR
    rw [Int.toNat_natCast]
    obtain ⟨res, eres⟩ : ∃ res, res = topN T.hol T.n i := ⟨_, rfl⟩
    rw [← eres] at q
    refine for_range (lo := 0) (n := T.n) (fun k σ H' => ∃ (at_ : Nat) (v : Option V), σ = [some (.ref d), some (.int (i : Nat)), some (.int (at_ : Nat)), v] ∧ H' = H ∧ at_ ≤ T.n ∧ topN T.hol (T.n - k) at_ = res) ⟨_, none, rfl, rfl, hi, eres.symm⟩ ?_ ?_
    · rintro k σ H' hk ⟨at_, v, rfl, rfl, ha, he⟩
      obtain ⟨m, em⟩ : ∃ m, T.n - k = m + 1 := ⟨T.n - k - 1, by omega⟩
      rw [em] at he
      unfold topN at he
      have em2 : T.n - (k + 1) = m := by omega
      refine ifI fun A2 B2 ka kb => ?_
      walk_at "rd"
      refine ⟨_, M.gHol, _, rfl, _, M.hl, _, ni_at (by rw [ok.lh]; omega), rfl, ?_⟩
      by_cases g : T.hol.getD at_ 0 = 0
      · rw [if_pos (by rw [g]; rfl)]
        refine kb _ ?_
        walk_at "rd"
        refine ⟨_, rfl, ha, ?_⟩
        rw [em2, ← he, if_pos g]
        cases m with
        | zero => rfl
        | succ m => exact if_pos g
      · rw [if_neg (fun z => g (by have := V.int.inj z; omega))]
        refine ka _ ?_
        rw [if_neg g] at he
        walk_at "rd"
        exact ⟨_, M.gHol, _, rfl, _, M.hl, _, ni_at (by rw [ok.lh]; omega), _, rfl, getD_le ok.vh, by rw [em2]; exact he⟩
    rintro σ H' ⟨at_, v, rfl, rfl, ha, he⟩
    refine k0 _ _ ?_
    walk_at "rd"
    rw [Nat.sub_self] at he
    have he : at_ = _ := he
    rw [← he] at q
    exact q
end
section
variable {P : Program} {w : World} {K : PySem.W.Frag} {mg : Str → Option Value} {base : Heap}
theorem ok__law_told (S : Src K mg "_law_told" s__law_told) (T : Tx P K mg) (C__law_parts : Cal P w K mg base CX0 1 "_law_parts" ["_law_model_here", "_law_thing"] spLParts) (C__law_beside : Cal P w K mg base CX0 1 "_law_beside" ["_law_model_here", "_law_thing"] spLBeside)  : Cal P w K mg base CX0 2 "_law_told" ["_law_model_here"] spLTold := by
  refine S.cal sc__law_told bn__law_told (fun vs H Q E h => ?_) (fun f cdv A outer s H vs Q E hr h => ?_)
  · first | (obtain ⟨rfl, _⟩ := h; rfl) | (obtain ⟨_, rfl, _⟩ := h; rfl) | (obtain ⟨_, _, rfl, _⟩ := h; rfl) | (obtain ⟨_, _, _, rfl, _⟩ := h; rfl) | (obtain ⟨_, _, _, _, rfl, _⟩ := h; rfl) | (obtain ⟨_, _, _, _, _, rfl, _⟩ := h; rfl) | (obtain ⟨_, _, _, _, _, _, rfl, _⟩ := h; rfl) | (obtain ⟨_, _, _, _, _, _, _, rfl, _⟩ := h; rfl) | (obtain ⟨_, _, _, _, _, _, _, _, rfl, _⟩ := h; rfl) | (obtain ⟨_, _, _, _, _, _, _, _, _, rfl, _⟩ := h; rfl) | (obtain ⟨_, _, _, _, _, _, _, _, _, _, rfl, _⟩ := h; rfl) | (obtain ⟨_, _, _, _, _, _, _, _, _, _, _, rfl, _⟩ := h; rfl) | (obtain ⟨_, _, _, _, _, _, _, _, _, _, _, _, rfl, _⟩ := h; rfl)
  · skip
    refine ⟨_, (pss_cons (ps_set (i := 1) sc__law_told.nd rfl (Or.inl rfl) (pe_lst pa_nil))
        (pss_cons (ps_for PassesOwn.never rfl (pi_range2 rfl T.b_range (Fx.pa_c pe_int (Fx.pa_c (pe_op op_add (pe_dget (hu_of hr) (pv 0) pe_str (fun _ _ => rfl)) pe_int) pa_nil))) (pg_name (i := 2) sc__law_told.nd rfl (Or.inl rfl)) (pss_cons (ps_set (i := 3) sc__law_told.nd rfl (Or.inl rfl) (pe_ix Fx.ix_L (pe_op op_cat (Fx.pe_cal C__law_parts (hr.mono (by decide)) pass0 (Fx.pa_c (pv 0) (Fx.pa_c (pv 2) pa_nil))) (pe_lst (Fx.pa_c pe_int pa_nil))) pe_int (fun _ _ => rfl)))
        (pss_one (ps_expr (pe_bm PySem.F.plainAttrs_list PySem.F.slot_list_append PySem.F.type_list_append mt_append (pv 1) (Fx.pa_c (pe_tup (Fx.pa_c (Fx.pe_cTy Fx.tup_L T.b_tuple (by decide +kernel) (Fx.pa_c (pe_ix Fx.ix_L (pe_dget (hu_of hr) (pv 0) pe_str (fun _ _ => rfl)) (pv 2) (fun _ _ => rfl)) pa_nil)) (Fx.pa_c (pe_ix Fx.ix_L (pe_dget (hu_of hr) (pv 0) pe_str (fun _ _ => rfl)) (pv 2) (fun _ _ => rfl)) (Fx.pa_c (Fx.pe_cal C__law_beside (hr.mono (by decide)) pass0 (Fx.pa_c (pv 0) (Fx.pa_c (pv 2) pa_nil))) (Fx.pa_c (pv 3) pa_nil))))) pa_nil))))))
        (pss_one (ps_ret (Fx.pe_cTy Fx.tup_L T.b_tuple (by decide +kernel) (Fx.pa_c (pv 1) pa_nil)))))), ?_⟩
    obtain ⟨d, C, T, P, rfl, M, G, q⟩ := h
    have ok := G.ok
    refine seqI fun K1 k1 => ?_
    walk_at "rd"
    refine ⟨Nat.zero_le _, fun p np => k1 _ _ ?_⟩
    clear k1
    have sp := same_new (o := .lst []) np
    have h0 : (upd H p (.lst [])) p = some (.lst []) := upd_same
    refine seqI fun K0 k0 => ?_
    refine forI fun R0 hR => ?_
    walk_at "rd"
    refine ⟨_, (M.same sp).gMany, _, rfl, by decide, by decide, by omega, by have := ok.n60; unfold Tr.n at this; omega, hR _ _ ?_⟩
    clear hR
    have n60 := ok.n60
    rw [show (((T.hol.length - 1 : Nat) : Int) + 1 - 1).toNat = T.n by unfold Tr.n; omega]
    refine for_range (lo := 1) (n := T.n) (fun i σ H' => ∃ (v2 v3 : Option V) (as : List Addr), σ = [some (.ref d), some (.ref p), v2, v3] ∧ as.length = i ∧ H' p = some (.lst (as.map V.ref)) ∧ (∀ (j : Nat) (a : Addr), as[j]? = some a → RowAt H' a (rowT T (j + 1))) ∧ Same H H') ⟨none, none, [], rfl, rfl, h0, fun j a e => (by cases e), sp⟩ ?_ ?_
    · rintro i σ H1 hi ⟨v2, v3, as, rfl, la, hp, hr, s1⟩
      have M1 := M.same s1
      rw [show (1 : Int) + (i : Nat) = ((i + 1 : Nat) : Int) by omega]
      refine seqI fun K1 k1 => ?_
      walk_at "rd"
      refine ⟨d, C, T, P, i + 1, rfl, M1, G, by omega, fun p2 H2 s2 np2 hp2 => ?_⟩
      walk_at "rd"
      have F := G.fo
      have ch := F.ch (i + 1) (by omega) (by omega)
      have nd := nodup_row F (i + 1)
      have lP := nodup_lt nd (n := T.n + 1) fun z hz => by have := ((F.mem (i + 1) z (by omega)).mp hz).2.1; omega
      rw [partsOf, if_neg (by omega : ¬ i + 1 = 0)] at hp2
      refine ⟨by decide, fun q0 n0 => ⟨_, same_new n0 _ _ hp2, ?_, fun q1 n1 => ⟨.int (T.fir.getD (i + 1) 0 : Nat), ?_, k1 _ _ ?_⟩⟩⟩
      · rw [ni_len]
        exact Nat.le_trans (by omega : _ ≤ 100) (by decide)
      · rw [ni0, ← ni_app, ← chain_first ch]
        exact ni_at (i := 0) (by simp)
      clear k1
      have s3 := same_new (o := .lst [.int 0]) n0
      have s4 := (s2.trans s3).trans (same_new (o := .lst (ni (P.getD (i + 1) []) ++ [V.int 0])) n1)
      generalize upd (upd H2 q0 (.lst [.int 0])) q1 (.lst (ni (P.getD (i + 1) []) ++ [V.int 0])) = H4 at s4
      have M4 := M1.same s4
      have hp4 := s4 _ _ hp
      have s14 := s1.trans s4
      have hr4 : ∀ (j : Nat) (a : Addr), as[j]? = some a → RowAt H4 a (rowT T (j + 1)) := fun j a e => (hr j a e).same s4
      clear M1 s4 hp s1 hr s3 n0 n1 hp2 np2 s2
      obtain ⟨ra, era, ha, hra⟩ := M4.mrk (i := i + 1) (by rw [ok.lm]; omega)
      walk_at "rd"
      refine ⟨tyL hp4, ?_⟩
      refine ⟨_, M4.gMrk, _, rfl, _, M4.mm, _, ha, _, rfl, _, hra, fun tq ntq => ?_⟩
      have s5 := same_new (o := .tup (ni (srtN (T.mks.getD (i + 1) [])))) ntq
      have ht5 : (upd H4 tq (.tup (ni (srtN (T.mks.getD (i + 1) []))))) tq = some (.tup (ni (srtN (T.mks.getD (i + 1) [])))) := upd_same
      generalize upd H4 tq (.tup (ni (srtN (T.mks.getD (i + 1) [])))) = H5 at s5 ht5
      have M5 := M4.same s5
      refine ⟨_, M5.gHol, _, rfl, _, M5.hl, _, ni_at (by rw [ok.lh]; omega), d, C, T, P, i + 1, rfl, M5, G, by omega, fun H6 s6 => ⟨by decide, fun pq npq => ?_⟩⟩
      have s7 := same_new (o := .tup [.ref tq, .int (T.hol.getD (i + 1) 0 : Nat), .int (T.bes.getD (i + 1) 0 : Nat), .int (T.fir.getD (i + 1) 0 : Nat)]) npq
      have hq7 : (upd H6 pq (.tup [.ref tq, .int (T.hol.getD (i + 1) 0 : Nat), .int (T.bes.getD (i + 1) 0 : Nat), .int (T.fir.getD (i + 1) 0 : Nat)])) pq = _ := upd_same
      have ht7 := s7 _ _ (s6 _ _ ht5)
      have s47 := (s5.trans s6).trans s7
      generalize upd H6 pq (.tup [.ref tq, .int (T.hol.getD (i + 1) 0 : Nat), .int (T.bes.getD (i + 1) 0 : Nat), .int (T.fir.getD (i + 1) 0 : Nat)]) = H7 at s7 hq7 ht7 s47
      have hp7 := s47 _ _ hp4
      have hr7 : ∀ (j : Nat) (a : Addr), as[j]? = some a → RowAt H7 a (rowT T (j + 1)) := fun j a e => (hr4 j a e).same s47
      refine ⟨_, hp7, ?_, as ++ [pq], ?_, ?_, fun j a e => ?_, Same.put (s14.trans s47) np⟩
      · rw [List.length_map, la]
        exact Nat.lt_of_lt_of_le (by omega : _ < 100) (by decide)
      · rw [List.length_append, la]
        rfl
      · rw [List.map_append]
        rfl
      · by_cases hj : j < as.length
        · rw [List.getElem?_append_left hj] at e
          exact (hr7 j a e).put hp7
        · have hj2 := (List.getElem?_eq_some_iff.mp e).1
          rw [List.length_append, List.length_singleton] at hj2
          have ej : j = as.length := by omega
          rw [ej, List.getElem?_append_right (Nat.le_refl _), Nat.sub_self] at e
          cases e
          rw [ej, la]
          exact RowAt.put ⟨tq, hq7, ht7⟩ hp7
    rintro σ H1 ⟨v2, v3, as, rfl, la, hp, hr, s1⟩
    refine k0 _ _ ?_
    walk_at "rd"
    refine ⟨_, hp, fun l nl => q l _ (s1.trans (same_new nl)) (s1.free nl) ⟨as, upd_same, ?_, fun j a r e1 e2 => ?_⟩⟩
    · rw [la, rowsT, List.length_map, List.length_range']
    · have hj := (List.getElem?_eq_some_iff.mp e1).1
      rw [rowsT, List.getElem?_map, List.getElem?_eq_getElem (by rw [List.length_range']; omega), List.getElem_range'] at e2
      cases e2
      have := (hr j a e1).same (same_new (o := .tup (as.map V.ref)) nl)
      rw [show 1 + 1 * j = j + 1 by omega]
      exact this
end
section
variable {P : Program} {w : World} {K : PySem.W.Frag} {mg : Str → Option Value} {base : Heap}
theorem ok__law_same (S : Src K mg "_law_same" s__law_same) (T : Tx P K mg) (C_Tree_M_told : CalM P w K mg base CX0 1 (He.ga K "Tree") "told" ["self"] (spTold K)) (C__law_told : Cal P w K mg base CX0 2 "_law_told" ["_law_model_here"] spLTold) (C_Tree_MU_iterU : CalM P w K mg base CX0 1 (He.ga K "Tree") "__iter__" ["self"] (spIter K)) (C_Tree_MU_lenU : CalM P w K mg base CX0 1 (He.ga K "Tree") "__len__" ["self"] (spLen K)) (C_Tree_MU_containsU : CalM P w K mg base CX0 2 (He.ga K "Tree") "__contains__" ["self", "thing"] (spCont K)) (C__law_parts : Cal P w K mg base CX0 1 "_law_parts" ["_law_model_here", "_law_thing"] spLParts) (C__law_beside : Cal P w K mg base CX0 1 "_law_beside" ["_law_model_here", "_law_thing"] spLBeside) (C__law_place : Cal P w K mg base CX0 1 "_law_place" ["_law_model_here", "_law_thing"] spLPlace) (C_Tree_M_holder_of : CalM P w K mg base (L2.CX P w) 4 (He.ga K "Tree") "holder_of" ["self", "thing"] (spNum K (fun t i => t.hol.getD i 0) fun _ => True)) (C_Tree_MU_getitemU : CalM P w K mg base (L2.CX P w) 4 (He.ga K "Tree") "__getitem__" ["self", "thing"] (spNum K (fun t i => t.hol.getD i 0) fun _ => True)) (C_Tree_M_first_of : CalM P w K mg base (L2.CX P w) 4 (He.ga K "Tree") "first_of" ["self", "thing"] (spNum K (fun t i => t.fir.getD i 0) fun _ => True)) (C_Tree_M_beside_of : CalM P w K mg base (L2.CX P w) 4 (He.ga K "Tree") "beside_of" ["self", "thing"] (spNum K (fun t i => t.bes.getD i 0) fun _ => True)) (C_Tree_M_place_of : CalM P w K mg base (L2.CX P w) 4 (He.ga K "Tree") "place_of" ["self", "thing"] (spNum K (fun t i => topN t.hol t.n i) RankT)) (C_Tree_M_parts_of : CalM P w K mg base (L2.CX P w) 4 (He.ga K "Tree") "parts_of" ["self", "thing"] (spParts K)) (C__law_pick : Cal P w K mg base CX0 1 "_law_pick" ["_law_bag_here", "_law_many"] spPick) (C_Tree_M_holds : CalM P w K mg base (L2.CX P w) 4 (He.ga K "Tree") "holds" ["self", "thing", "other"] (spHolds K)) (C__law_inside : Cal P w K mg base CX0 1 "_law_inside" ["_law_model_here", "_law_thing", "_law_other"] spInside) (C_Tree_M_has_mark : CalM P w K mg base (L2.CX P w) 4 (He.ga K "Tree") "has_mark" ["self", "thing", "mark"] (spHas K))  : CalG P w K mg base CX0 6 "_law_same" ["_law_bag_here", "_law_tree", "_law_model_here"] (spLSame K) := by
  refine S.calG sc__law_same bn__law_same (fun vs H Q E h => ?_) (fun f cdv A outer s H vs Q E hG hr h => ?_)
  · first | (obtain ⟨rfl, _⟩ := h; rfl) | (obtain ⟨_, rfl, _⟩ := h; rfl) | (obtain ⟨_, _, rfl, _⟩ := h; rfl) | (obtain ⟨_, _, _, rfl, _⟩ := h; rfl) | (obtain ⟨_, _, _, _, rfl, _⟩ := h; rfl) | (obtain ⟨_, _, _, _, _, rfl, _⟩ := h; rfl) | (obtain ⟨_, _, _, _, _, _, rfl, _⟩ := h; rfl) | (obtain ⟨_, _, _, _, _, _, _, rfl, _⟩ := h; rfl) | (obtain ⟨_, _, _, _, _, _, _, _, rfl, _⟩ := h; rfl) | (obtain ⟨_, _, _, _, _, _, _, _, _, rfl, _⟩ := h; rfl) | (obtain ⟨_, _, _, _, _, _, _, _, _, _, rfl, _⟩ := h; rfl) | (obtain ⟨_, _, _, _, _, _, _, _, _, _, _, rfl, _⟩ := h; rfl) | (obtain ⟨_, _, _, _, _, _, _, _, _, _, _, _, rfl, _⟩ := h; rfl)
  · skip
    obtain ⟨f_Tree_M_told, fd_Tree_M_told, m_Tree_M_told, b_Tree_M_told, G_Tree_M_told⟩ := C_Tree_M_told.ex
    obtain ⟨f_Tree_MU_iterU, fd_Tree_MU_iterU, m_Tree_MU_iterU, b_Tree_MU_iterU, G_Tree_MU_iterU⟩ := C_Tree_MU_iterU.ex
    obtain ⟨f_Tree_MU_lenU, fd_Tree_MU_lenU, m_Tree_MU_lenU, b_Tree_MU_lenU, G_Tree_MU_lenU⟩ := C_Tree_MU_lenU.ex
    obtain ⟨f_Tree_MU_containsU, fd_Tree_MU_containsU, m_Tree_MU_containsU, b_Tree_MU_containsU, G_Tree_MU_containsU⟩ := C_Tree_MU_containsU.ex
    obtain ⟨f_Tree_M_holder_of, fd_Tree_M_holder_of, m_Tree_M_holder_of, b_Tree_M_holder_of, G_Tree_M_holder_of⟩ := C_Tree_M_holder_of.ex
    obtain ⟨f_Tree_MU_getitemU, fd_Tree_MU_getitemU, m_Tree_MU_getitemU, b_Tree_MU_getitemU, G_Tree_MU_getitemU⟩ := C_Tree_MU_getitemU.ex
    obtain ⟨f_Tree_M_first_of, fd_Tree_M_first_of, m_Tree_M_first_of, b_Tree_M_first_of, G_Tree_M_first_of⟩ := C_Tree_M_first_of.ex
    obtain ⟨f_Tree_M_beside_of, fd_Tree_M_beside_of, m_Tree_M_beside_of, b_Tree_M_beside_of, G_Tree_M_beside_of⟩ := C_Tree_M_beside_of.ex
    obtain ⟨f_Tree_M_place_of, fd_Tree_M_place_of, m_Tree_M_place_of, b_Tree_M_place_of, G_Tree_M_place_of⟩ := C_Tree_M_place_of.ex
    obtain ⟨f_Tree_M_parts_of, fd_Tree_M_parts_of, m_Tree_M_parts_of, b_Tree_M_parts_of, G_Tree_M_parts_of⟩ := C_Tree_M_parts_of.ex
    obtain ⟨f_Tree_M_holds, fd_Tree_M_holds, m_Tree_M_holds, b_Tree_M_holds, G_Tree_M_holds⟩ := C_Tree_M_holds.ex
    obtain ⟨f_Tree_M_has_mark, fd_Tree_M_has_mark, m_Tree_M_has_mark, b_Tree_M_has_mark, G_Tree_M_has_mark⟩ := C_Tree_M_has_mark.ex
    refine ⟨_, (pss_cons (ps_set (i := 3) sc__law_same.nd rfl (Or.inl rfl) (pe_dget (hu_of hr) (pv 2) pe_str (fun _ _ => rfl)))
        (pss_cons (ps_if (PW.pt (pw_or (pt_cmpR op_ne (Fx.pe_cB (Fx.call_reprK (K := K) rfl hG hr.units) T.b_repr (by decide +kernel) (Fx.pa_c (pe_meth0 (pv 1) T.cl_Tree m_Tree_M_told G_Tree_M_told (hr.mono (by decide)) b_Tree_M_told .nil pass0) pa_nil)) (Fx.pe_cB (Fx.call_reprK (K := K) rfl hG hr.units) T.b_repr (by decide +kernel) (Fx.pa_c (Fx.pe_cal C__law_told (hr.mono (by decide)) pass0 (Fx.pa_c (pv 2) pa_nil)) pa_nil)) (nomark _)) (pw_or1 (pt_cmpR op_ne (Fx.pe_cB (Fx.call_reprK (K := K) rfl hG hr.units) T.b_repr (by decide +kernel) (Fx.pa_c (Fx.pe_cTy (Fx.list_OL C_Tree_MU_iterU C_Tree_MU_lenU rfl (hr.mono (by decide))) T.b_list (by decide +kernel) (Fx.pa_c (pv 1) pa_nil)) pa_nil)) (Fx.pe_cB (Fx.call_reprK (K := K) rfl hG hr.units) T.b_repr (by decide +kernel) (Fx.pa_c (pe_listRg rfl rfl T.b_list (prg_2 rfl T.b_range pe_int (pe_op op_add (pv 3) pe_int))) pa_nil)) (nomark _))))) (pss_one (ps_ret pe_bl)) pss_nil)
        (pss_cons (ps_if (PW.pt (pw_or (pt_cmpR op_ne (Fx.pe_cB (Fx.len_O C_Tree_MU_lenU (hr.mono (by decide)) pass0) T.b_len (by decide +kernel) (Fx.pa_c (pv 1) pa_nil)) (pv 3) (nomark _)) (pw_or (pt_cmpR (Fx.in_O C_Tree_MU_containsU (hr.mono (by decide)) pass0) (pe_un un_neg pe_int) (pv 1) rfl) (pw_or (pt_cmpR (Fx.in_O C_Tree_MU_containsU (hr.mono (by decide)) pass0) pe_int (pv 1) rfl) (pw_or1 (pt_cmpR (Fx.in_O C_Tree_MU_containsU (hr.mono (by decide)) pass0) (pe_op op_add (pv 3) pe_int) (pv 1) rfl)))))) (pss_one (ps_ret pe_bl)) pss_nil)
        (pss_cons (ps_for PassesOwn.never rfl (pi_range1 rfl T.b_range (Fx.pa_c (pe_op op_add (pv 3) pe_int) pa_nil)) (pg_name (i := 4) sc__law_same.nd rfl (Or.inl rfl)) (pss_cons (ps_set (i := 5) sc__law_same.nd rfl (Or.inl rfl) (Fx.pe_cal C__law_parts (hr.mono (by decide)) pass0 (Fx.pa_c (pv 2) (Fx.pa_c (pv 4) pa_nil))))
        (pss_cons (ps_set (i := 6) sc__law_same.nd rfl (Or.inl rfl) (pe_ix Fx.ix_L (pe_dget (hu_of hr) (pv 2) pe_str (fun _ _ => rfl)) (pv 4) (fun _ _ => rfl)))
        (pss_cons (ps_set (i := 7) sc__law_same.nd rfl (Or.inl rfl) (pe_lst (Fx.pa_c (pv 6) (Fx.pa_c (pv 6) (Fx.pa_c (pe_ix Fx.ix_L (pe_op op_cat (pv 5) (pe_lst (Fx.pa_c pe_int pa_nil))) pe_int (fun _ _ => rfl)) (Fx.pa_c (Fx.pe_cal C__law_beside (hr.mono (by decide)) pass0 (Fx.pa_c (pv 2) (Fx.pa_c (pv 4) pa_nil))) (Fx.pa_c (Fx.pe_cal C__law_place (hr.mono (by decide)) pass0 (Fx.pa_c (pv 2) (Fx.pa_c (pv 4) pa_nil))) (Fx.pa_c (Fx.pe_cTy Fx.tup_L T.b_tuple (by decide +kernel) (Fx.pa_c (pv 5) pa_nil)) pa_nil))))))))
        (pss_cons (ps_set (i := 8) sc__law_same.nd rfl (Or.inl rfl) (pe_lst (Fx.pa_c (pe_meth (pv 1) T.cl_Tree m_Tree_M_holder_of G_Tree_M_holder_of (hr.mono (by decide)) b_Tree_M_holder_of .nil Fx.passX (Fx.pa_c (pv 4) pa_nil)) (Fx.pa_c (Fx.pe_ixO C_Tree_MU_getitemU (hr.mono (by decide)) Fx.passX (pv 1) (pv 4) (fun _ _ => rfl) T.ix_Tree) (Fx.pa_c (pe_meth (pv 1) T.cl_Tree m_Tree_M_first_of G_Tree_M_first_of (hr.mono (by decide)) b_Tree_M_first_of .nil Fx.passX (Fx.pa_c (pv 4) pa_nil)) (Fx.pa_c (pe_meth (pv 1) T.cl_Tree m_Tree_M_beside_of G_Tree_M_beside_of (hr.mono (by decide)) b_Tree_M_beside_of .nil Fx.passX (Fx.pa_c (pv 4) pa_nil)) pa_nil))))))
        (pss_cons (ps_if (pt_cmpR op_ne (Fx.pe_cB (Fx.call_reprK (K := K) rfl hG hr.units) T.b_repr (by decide +kernel) (Fx.pa_c (pe_op op_cat (pv 8) (pe_lst (Fx.pa_c (pe_meth (pv 1) T.cl_Tree m_Tree_M_place_of G_Tree_M_place_of (hr.mono (by decide)) b_Tree_M_place_of .nil Fx.passX (Fx.pa_c (pv 4) pa_nil)) (Fx.pa_c (pe_meth (pv 1) T.cl_Tree m_Tree_M_parts_of G_Tree_M_parts_of (hr.mono (by decide)) b_Tree_M_parts_of .nil Fx.passX (Fx.pa_c (pv 4) pa_nil)) pa_nil)))) pa_nil)) (Fx.pe_cB (Fx.call_reprK (K := K) rfl hG hr.units) T.b_repr (by decide +kernel) (Fx.pa_c (pv 7) pa_nil)) (nomark _)) (pss_one (ps_ret pe_bl)) pss_nil)
        (pss_cons (ps_set (i := 9) sc__law_same.nd rfl (Or.inl rfl) (Fx.pe_cal C__law_pick (hr.mono (by decide)) pass0 (Fx.pa_c (pv 0) (Fx.pa_c (pe_op op_add (pv 3) pe_int) pa_nil))))
        (pss_cons (ps_set (i := 10) sc__law_same.nd rfl (Or.inl rfl) (Fx.pe_cal C__law_pick (hr.mono (by decide)) pass0 (Fx.pa_c (pv 0) (Fx.pa_c pe_int pa_nil))))
        (pss_cons (ps_if (pt_cmpR op_ne (Fx.pe_cB (Fx.call_reprK (K := K) rfl hG hr.units) T.b_repr (by decide +kernel) (Fx.pa_c (pe_meth (pv 1) T.cl_Tree m_Tree_M_holds G_Tree_M_holds (hr.mono (by decide)) b_Tree_M_holds .nil Fx.passX (Fx.pa_c (pv 4) (Fx.pa_c (pv 9) pa_nil))) pa_nil)) (Fx.pe_cB (Fx.call_reprK (K := K) rfl hG hr.units) T.b_repr (by decide +kernel) (Fx.pa_c (Fx.pe_cal C__law_inside (hr.mono (by decide)) pass0 (Fx.pa_c (pv 2) (Fx.pa_c (pv 4) (Fx.pa_c (pv 9) pa_nil)))) pa_nil)) (nomark _)) (pss_one (ps_ret pe_bl)) pss_nil)
        (pss_cons (ps_if (pt_cmpR op_ne (Fx.pe_cB (Fx.call_reprK (K := K) rfl hG hr.units) T.b_repr (by decide +kernel) (Fx.pa_c (pe_meth (pv 1) T.cl_Tree m_Tree_M_holds G_Tree_M_holds (hr.mono (by decide)) b_Tree_M_holds .nil Fx.passX (Fx.pa_c (pv 6) (Fx.pa_c (pv 4) pa_nil))) pa_nil)) (Fx.pe_cB (Fx.call_reprK (K := K) rfl hG hr.units) T.b_repr (by decide +kernel) (Fx.pa_c (pe_cmpR op_ne (pv 6) pe_int (nomark _)) pa_nil)) (nomark _)) (pss_one (ps_ret pe_bl)) pss_nil)
        (pss_cons (ps_if (pt_cmpR op_ne (Fx.pe_cB (Fx.call_reprK (K := K) rfl hG hr.units) T.b_repr (by decide +kernel) (Fx.pa_c (pe_meth (pv 1) T.cl_Tree m_Tree_M_has_mark G_Tree_M_has_mark (hr.mono (by decide)) b_Tree_M_has_mark .nil Fx.passX (Fx.pa_c (pv 4) (Fx.pa_c (pv 10) pa_nil))) pa_nil)) (Fx.pe_cB (Fx.call_reprK (K := K) rfl hG hr.units) T.b_repr (by decide +kernel) (Fx.pa_c (pe_cmpR op_in_seq (pv 10) (pe_ix Fx.ix_L (pe_dget (hu_of hr) (pv 2) pe_str (fun _ _ => rfl)) (pv 4) (fun _ _ => rfl)) rfl) pa_nil)) (nomark _)) (pss_one (ps_ret pe_bl)) pss_nil)
        (pss_one (ps_if (PW.pt (pw_and (pt_cmpR op_gt (pv 4) pe_int (nomark _)) (pw_and1 (pt_cmpR (Fx.notIn_O C_Tree_MU_containsU (hr.mono (by decide)) pass0) (pv 4) (pv 1) rfl)))) (pss_one (ps_ret pe_bl)) pss_nil)))))))))))))
        (pss_one (ps_ret pe_bl)))))), ?_⟩
    obtain ⟨b, x, d, A, C, t, P, rfl, hB, L, M, G, nb1, nb2, q⟩ := h
    have ok := G.ok
    have F := G.fo
    have n60 := ok.n60
    have n1 := ok.n1
    obtain ⟨dx, hx⟩ := L.ins
    refine seqI fun K1 k1 => ?_
    walk_at "rd"
    refine ⟨_, M.gMany, k1 _ _ ?_⟩
    clear k1
    refine seqI fun K0 k0 => ?_
    refine ifI fun A2 B2 ka kb => ?_
    walk_at "rd"
    refine ⟨_, _, hx, rfl, x, A, t, rfl, L, ok, fun p1 H1 s1 np1 td1 => ?_⟩
    walk_at "rd"
    have S1 := (okD_told ok).sho (K := K) td1.dp (by decide) (by decide)
    refine ⟨_, S1.dp, S1.sh, S1.nd, S1.dep, S1.len, d, C, t, P, rfl, M.same s1, G, fun p2 H2 s2 np2 td2 => ?_⟩
    have S2 := (okD_told ok).sho (K := K) td2.dp (by decide) (by decide)
    refine ⟨_, S2.dp, S2.sh, S2.nd, S2.dep, S2.len, ?_⟩
    rw [if_pos rfl]
    have s02 := s1.trans s2
    clear S1 S2 td1 td2 np1 np2 s1 s2
    have L2 := L.same s02
    refine ⟨_, _, s02 _ _ hx, fun q0 nq0 => ?_⟩
    have s3 := same_new (o := .lst []) nq0
    have hq3 : (upd H2 q0 (.lst [])) q0 = some (.lst []) := upd_same
    have nqn : A.num ≠ q0 := fun e => by
      have := L2.num
      rw [e, nq0] at this
      cases this
    generalize upd H2 q0 (.lst []) = H3 at s3 hq3
    have L3 := L2.same s3
    refine ⟨x, A, t, rfl, L3, fun it nit => ?_⟩
    have s4 := same_new (o := LItO A.num it 0) nit
    have hit4 : (upd H3 it (LItO A.num it 0)) it = some (LItO A.num it 0) := upd_same
    have nit2 := s3.free nit
    generalize upd H3 it (LItO A.num it 0) = H4 at s4 hit4
    have L4 := L3.same s4
    refine ⟨it, rfl, A.num, hit4, dx, _, s4 _ _ (s3 _ _ (s02 _ _ hx)), x, A, t, rfl, L4, ok, fun H5 s5 => ?_⟩
    have L5 := L4.same s5
    refine ⟨_, rfl, by omega, by omega, s5 _ _ hit4, s5 _ _ (s4 _ _ hq3), _, L5.num, nqn, ?_⟩
    walk_at "rd"
    have okr := okD_lints (l := List.range' 1 t.n) (n := 60) (by rw [List.length_range']; exact n60) fun m hm => by have := List.mem_range'_1.mp hm; omega
    have s6 : Same H5 (upd (upd H5 it (EndO it)) q0 (.lst (ni (List.range' 1 t.n)))) → True := fun _ => trivial
    have S03 : Same H (upd (upd H5 it (EndO it)) q0 (.lst (ni (List.range' 1 t.n)))) := Same.put (Same.put (((s02.trans s3).trans s4).trans s5) (s02.free nit2)) (s02.free nq0)
    have hq6 : (upd (upd H5 it (EndO it)) q0 (.lst (ni (List.range' 1 t.n)))) q0 = some (.lst (ni (List.range' 1 t.n))) := upd_same
    generalize upd (upd H5 it (EndO it)) q0 (.lst (ni (List.range' 1 t.n))) = H6 at S03 hq6
    clear s6 L5 s5 hit4 s4 L4 nit s3 hq3 L3 nq0 nit2 L2 s02 nqn
    have S1 := okr.sho (K := K) (H := H6) (v := .ref q0) (.lst (.inl (.inl hq6)) (dp_ni _)) (by decide) (by decide)
    refine ⟨_, S1.dp, S1.sh, S1.nd, S1.dep, S1.len, ⟨by decide, by decide, by have := ok.lh; omega, by have := ok.lh; omega, by have := ok.lh; omega⟩, fun q1 nq1 => ?_⟩
    rw [show (t.hol.length - 1 : Nat) = t.n from rfl, rg_ni]
    have s7 := same_new (o := .lst (ni (List.range' 1 t.n))) nq1
    have hq7 : (upd H6 q1 (.lst (ni (List.range' 1 t.n)))) q1 = some (.lst (ni (List.range' 1 t.n))) := upd_same
    generalize upd H6 q1 (.lst (ni (List.range' 1 t.n))) = H7 at s7 hq7
    have S2 := okr.sho (K := K) (H := H7) (v := .ref q1) (.lst (.inl (.inl hq7)) (dp_ni _)) (by decide) (by decide)
    refine ⟨_, S2.dp, S2.sh, S2.nd, S2.dep, S2.len, ?_⟩
    rw [if_pos rfl]
    refine kb _ (k0 _ _ ?_)
    clear ka kb k0 S1 S2
    have S07 := S03.trans s7
    have L7 := L.same S07
    have M7 := M.same S07
    have kp7 := Kp.same hB S07
    have B7 := kp7.bag
    have hx7 := S07 _ _ hx
    clear S07 S03 s7 hq7 hq6 nq1 okr
    refine seqI fun K0 k0 => ?_
    refine ifI fun A2 B2 ka kb => ?_
    walk_at "rd"
    refine ⟨_, _, hx7, x, A, t, rfl, L7, ok, fun H8 s8 => ⟨_, rfl, by omega, by omega, ?_⟩⟩
    rw [if_pos (show ((t.n : Nat) : Int) = ((t.hol.length - 1 : Nat) : Int) from rfl)]
    have hx8 := s8 _ _ hx7
    have L8 := L7.same s8
    have kp8 := kp7.then s8
    refine ⟨_, _, hx8, x, A, t, _, rfl, L8, ok, _, rfl, ?_⟩
    rw [if_neg (by rw [decide_eq_true_eq]; omega)]
    refine ⟨_, _, hx8, x, A, t, _, rfl, L8, ok, _, rfl, ?_⟩
    rw [if_neg (by rw [decide_eq_true_eq]; omega)]
    refine ⟨_, _, hx8, x, A, t, _, rfl, L8, ok, _, rfl, ?_⟩
    rw [if_neg (by rw [decide_eq_true_eq]; unfold Tr.n; omega)]
    refine kb _ (k0 _ _ ?_)
    clear ka kb k0 s8 hx7 L7 kp7 B7 M7 L8 hx8
    refine seqI fun K0 k0 => ?_
    refine forI fun R0 hR => ?_
    walk_at "rd"
    refine ⟨by omega, by have := ok.lh; omega, hR _ _ ?_⟩
    clear hR
    rw [show (((t.hol.length - 1 : Nat) : Int) + 1).toNat = t.n + 1 by unfold Tr.n; omega]
    refine for_range (lo := 0) (n := t.n + 1) (fun i σ H' => ∃ v4 v5 v6 v7 v8 v9 v10 : Option V, σ = [some (.ref b), some (.ref x), some (.ref d), some (.int (t.n : Nat)), v4, v5, v6, v7, v8, v9, v10] ∧ Kp b H H') ⟨_, _, _, _, _, _, _, rfl, kp8⟩ ?_ ?_
    · rintro i σ H9 hi ⟨v4, v5, v6, v7, v8, v9, v10, rfl, kp9⟩
      have B9 := kp9.bag
      have L9 := L.kp kp9 nb1
      have M9 := M.kp' kp9 nb2
      obtain ⟨dx9, hx9⟩ := L9.ins
      rw [show (0 : Int) + (i : Nat) = (i : Nat) by omega]
      refine seqI fun K1 k1 => ?_
      walk_at "rd"
      refine ⟨d, C, t, P, i, rfl, M9, G, by omega, fun pp H10 s10 npp hpp => k1 _ _ ?_⟩
      clear k1
      have M10 := M9.same s10
      refine seqI fun K1 k1 => ?_
      walk_at "rd"
      refine ⟨_, M10.gHol, _, rfl, _, M10.hl, _, ni_at (by rw [ok.lh]; omega), k1 _ _ ?_⟩
      clear k1
      have hi' : i ≤ t.n := by omega
      obtain ⟨pl, _⟩ := parts_ok ok F hi'
      refine seqI fun K1 k1 => ?_
      walk_at "rd"
      refine ⟨by decide, fun q2 nq2 => ⟨_, same_new nq2 _ _ hpp, by rw [ni_len]; exact Nat.le_trans (by omega : _ ≤ 100) (by decide), fun q3 nq3 => ⟨.int (t.fir.getD i 0 : Nat), by rw [ni0, ← ni_app, ← chain_first (parts_chain F hi')]; exact ni_at (i := 0) (by simp), ?_⟩⟩⟩
      have s13 := (same_new (o := .lst [.int 0]) nq2).trans (same_new (o := .lst (ni (partsOf P i) ++ [V.int 0])) nq3)
      generalize upd (upd H10 q2 (.lst [.int 0])) q3 (.lst (ni (partsOf P i) ++ [V.int 0])) = H13 at s13
      have M13 := M10.same s13
      refine ⟨d, C, t, P, i, rfl, M13, G, hi', fun H14 s14 => ⟨d, C, t, P, i, rfl, M13.same s14, G, hi', _, (s13.trans s14) _ _ hpp, fun q4 nq4 => ⟨by decide, fun q5 nq5 => k1 _ _ ?_⟩⟩⟩
      clear k1
      have s5 := same_new (o := .tup (ni (partsOf P i))) nq4
      have s6 := same_new (o := .lst [.int (t.hol.getD i 0 : Nat), .int (t.hol.getD i 0 : Nat), .int (t.fir.getD i 0 : Nat), .int (t.bes.getD i 0 : Nat), .int (topN t.hol t.n i : Nat), .ref q4]) nq5
      have h46 := s6 _ _ (upd_same (H := H14) (a := q4) (o := .tup (ni (partsOf P i))))
      have h56 : (upd (upd H14 q4 (.tup (ni (partsOf P i)))) q5 (.lst [.int (t.hol.getD i 0 : Nat), .int (t.hol.getD i 0 : Nat), .int (t.fir.getD i 0 : Nat), .int (t.bes.getD i 0 : Nat), .int (topN t.hol t.n i : Nat), .ref q4])) q5 = _ := upd_same
      have s16 := (((s10.trans s13).trans s14).trans s5).trans s6
      generalize upd (upd H14 q4 (.tup (ni (partsOf P i)))) q5 (.lst [.int (t.hol.getD i 0 : Nat), .int (t.hol.getD i 0 : Nat), .int (t.fir.getD i 0 : Nat), .int (t.bes.getD i 0 : Nat), .int (topN t.hol t.n i : Nat), .ref q4]) = H16 at s16 h46 h56
      clear s5 s6 nq5 nq4 s14 M13 s13 nq3 nq2 M10 s10 hpp npp
      have DU : Dp K H16 (.ref q5) (dueD t P i) := dp_due h56 h46
      have L16 := L9.same s16
      have M16 := M9.same s16
      have hx16 := s16 _ _ hx9
      have kp16 := kp9.then s16
      clear h46 h56 s16 L9 M9 hx9 kp9 B9
      refine seqI fun K1 k1 => ?_
      walk_at "rd"
      refine ⟨_, _, hx16, rfl, x, A, t, _, rfl, L16, ok, trivial, .inl ⟨i, rfl, hi', fun H17 s17 => ?_⟩⟩
      have hx17 := s17 _ _ hx16
      have L17 := L16.same s17
      walk_at "rd"
      refine ⟨_, _, hx17, x, A, t, _, rfl, L17, ok, trivial, .inl ⟨i, rfl, hi', fun H18 s18 => ?_⟩⟩
      have hx18 := s18 _ _ hx17
      have L18 := L17.same s18
      refine ⟨_, _, hx18, rfl, x, A, t, _, rfl, L18, ok, trivial, .inl ⟨i, rfl, hi', fun H19 s19 => ?_⟩⟩
      have hx19 := s19 _ _ hx18
      have L19 := L18.same s19
      refine ⟨_, _, hx19, rfl, x, A, t, _, rfl, L19, ok, trivial, .inl ⟨i, rfl, hi', fun H20 s20 => ⟨by decide, fun q6 nq6 => k1 _ _ ?_⟩⟩⟩
      clear k1
      have s21 := same_new (o := .lst [.int (t.hol.getD i 0 : Nat), .int (t.hol.getD i 0 : Nat), .int (t.fir.getD i 0 : Nat), .int (t.bes.getD i 0 : Nat)]) nq6
      have h6 : (upd H20 q6 (.lst [.int (t.hol.getD i 0 : Nat), .int (t.hol.getD i 0 : Nat), .int (t.fir.getD i 0 : Nat), .int (t.bes.getD i 0 : Nat)])) q6 = _ := upd_same
      have sA := (((s17.trans s18).trans s19).trans s20).trans s21
      generalize upd H20 q6 (.lst [.int (t.hol.getD i 0 : Nat), .int (t.hol.getD i 0 : Nat), .int (t.fir.getD i 0 : Nat), .int (t.bes.getD i 0 : Nat)]) = H21 at sA h6
      have L21 := L16.same sA
      have M21 := M16.same sA
      have DU := dp_same sA DU
      have hx21 := sA _ _ hx16
      have kp21 := kp16.then sA
      clear sA s21 nq6 s20 s19 s18 s17 L16 L17 L18 L19 M16 hx16 hx17 hx18 hx19 kp16
      refine seqI fun K1 k1 => ?_
      refine ifI fun A2 B2 ka kb => ?_
      walk_at "rd"
      refine ⟨_, _, hx21, rfl, x, A, t, _, rfl, L21, ok, ⟨F.h0, F.rk⟩, .inl ⟨i, rfl, hi', fun H22 s22 => ?_⟩⟩
      have hx22 := s22 _ _ hx21
      have L22 := L21.same s22
      refine ⟨_, _, hx22, rfl, x, A, t, P, _, rfl, L22, ok, F, .inl ⟨i, rfl, hi', fun q7 H23 s23 nq7 h7 => ?_⟩⟩
      walk_at "rd"
      have h623 := s23 _ _ (s22 _ _ h6)
      refine ⟨by decide, fun q8 nq8 => ⟨_, same_new nq8 _ _ h623, (show 4 + 2 ≤ sizeLine by decide), fun q9 nq9 => ?_⟩⟩
      have s24 := same_new (o := .lst [.int (topN t.hol t.n i : Nat), .ref q7]) nq8
      have s25 := same_new (o := .lst ([.int (t.hol.getD i 0 : Nat), .int (t.hol.getD i 0 : Nat), .int (t.fir.getD i 0 : Nat), .int (t.bes.getD i 0 : Nat)] ++ [.int (topN t.hol t.n i : Nat), .ref q7])) nq9
      have h9 : (upd (upd H23 q8 (.lst [.int (topN t.hol t.n i : Nat), .ref q7])) q9 (.lst ([.int (t.hol.getD i 0 : Nat), .int (t.hol.getD i 0 : Nat), .int (t.fir.getD i 0 : Nat), .int (t.bes.getD i 0 : Nat)] ++ [.int (topN t.hol t.n i : Nat), .ref q7]))) q9 = some (.lst [.int (t.hol.getD i 0 : Nat), .int (t.hol.getD i 0 : Nat), .int (t.fir.getD i 0 : Nat), .int (t.bes.getD i 0 : Nat), .int (topN t.hol t.n i : Nat), .ref q7]) := upd_same
      have h79 := s25 _ _ (s24 _ _ h7)
      have sB := ((s22.trans s23).trans s24).trans s25
      generalize upd (upd H23 q8 (.lst [.int (topN t.hol t.n i : Nat), .ref q7])) q9 (.lst ([.int (t.hol.getD i 0 : Nat), .int (t.hol.getD i 0 : Nat), .int (t.fir.getD i 0 : Nat), .int (t.bes.getD i 0 : Nat)] ++ [.int (topN t.hol t.n i : Nat), .ref q7])) = H25 at h9 h79 sB
      have okd := okD_due G hi'
      have S1 := okd.sho (K := K) (dp_due h9 h79) (by decide) (by decide)
      have S2 := okd.sho (dp_same sB DU) (by decide) (by decide)
      refine ⟨_, S1.dp, S1.sh, S1.nd, S1.dep, S1.len, _, S2.dp, S2.sh, S2.nd, S2.dep, S2.len, ?_⟩
      rw [if_pos rfl]
      refine kb _ (k1 _ _ ?_)
      clear ka kb k1 S1 S2 okd
      have L25 := L21.same sB
      have M25 := M21.same sB
      have hx25 := sB _ _ hx21
      have kp25 := kp21.then sB
      have B25 := kp25.bag
      clear DU h9 h79 s25 s24 nq9 nq8 h623 h7 nq7 s23 s22 L22 hx22 hx21 L21 M21 kp21 h6 sB
      refine seqI fun K1 k1 => ?_
      walk_at "rd"
      refine ⟨b, _, rfl, B25, by omega, by omega, fun o H26 o0 o1 kp26 => k1 _ _ ?_⟩
      clear k1
      have B26 := kp26.bag
      refine seqI fun K1 k1 => ?_
      walk_at "rd"
      refine ⟨b, _, rfl, B26, by decide, by decide, fun m H27 m0 m1 kp27 => k1 _ _ ?_⟩
      clear k1
      obtain ⟨o, rfl⟩ := ni_nat o0
      obtain ⟨m, rfl⟩ := ni_nat m0
      have kp27 := kp26.trans kp27
      have L27 := L25.kp kp27 nb1
      have M27 := M25.kp' kp27 nb2
      have kpH := kp25.trans kp27
      obtain ⟨dx27, hx27⟩ := L27.ins
      clear L25 M25 hx25 kp25 B25 kp26 B26 kp27
      refine seqI fun K1 k1 => ?_
      refine ifI fun A2 B2 ka kb => ?_
      walk_at "rd"
      refine ⟨_, _, hx27, rfl, x, A, t, _, _, rfl, L27, ok, ⟨F.h0, F.rk⟩, .inl ⟨i, o, rfl, rfl, hi', by omega, fun H28 s28 => ?_⟩⟩
      walk_at "rd"
      have SB : ∀ (H' : Hp) (c : Bool), Sho K H' (.bl c) (.bool c) := fun H' c => (okD_bool c).sho (.bl c) (by decide) (by decide)
      have S1 := SB H28 (inside t.hol i t.n (t.hol.getD o 0))
      have M28 := M27.same s28
      have L28 := L27.same s28
      have hx28 := s28 _ _ hx27
      refine ⟨_, S1.dp, S1.sh, S1.nd, S1.dep, S1.len, d, C, t, P, i, o, rfl, M28, ok, hi', by omega, _, S1.dp, S1.sh, S1.nd, S1.dep, S1.len, ?_⟩
      rw [if_pos rfl]
      refine kb _ (k1 _ _ ?_)
      clear ka kb k1 S1
      refine seqI fun K1 k1 => ?_
      refine ifI fun A2 B2 ka kb => ?_
      walk_at "rd"
      refine ⟨_, _, hx28, rfl, x, A, t, _, _, rfl, L28, ok, ⟨F.h0, F.rk⟩, .inl ⟨t.hol.getD i 0, i, rfl, rfl, getD_le ok.vh, hi', fun H29 s29 => ?_⟩⟩
      rw [inside_hold n1]
      walk_at "rd"
      have e0 : decide (((t.hol.getD i 0 : Nat) : Int) = 0) = decide (t.hol.getD i 0 = 0) := decide_eq_decide.mpr (by omega)
      rw [e0]
      have S1 := SB H29 (!decide (t.hol.getD i 0 = 0))
      refine ⟨_, S1.dp, S1.sh, S1.nd, S1.dep, S1.len, _, S1.dp, S1.sh, S1.nd, S1.dep, S1.len, ?_⟩
      rw [if_pos rfl]
      refine kb _ (k1 _ _ ?_)
      clear ka kb k1 S1
      have M29 := M28.same s29
      have L29 := L28.same s29
      have hx29 := s29 _ _ hx28
      refine seqI fun K1 k1 => ?_
      refine ifI fun A2 B2 ka kb => ?_
      walk_at "rd"
      refine ⟨_, _, hx29, rfl, x, A, t, _, _, rfl, L29, ok, .inl ⟨i, m, rfl, rfl, hi', by omega, fun H30 s30 => ?_⟩⟩
      have M30 := M29.same s30
      have L30 := L29.same s30
      have hx30 := s30 _ _ hx29
      obtain ⟨ra, era, hma, hra⟩ := M30.mrk (i := i) (by rw [ok.lm]; omega)
      walk_at "rd"
      have S1 := SB H30 (decide (m ∈ t.mks.getD i []))
      refine ⟨_, S1.dp, S1.sh, S1.nd, S1.dep, S1.len, _, M30.gMrk, _, rfl, _, M30.mm, _, hma, ra, _, rfl, .inl (.inl (.inl hra)), rfl, flat_ni _, ?_⟩
      rw [if_neg (by decide), inV_ni, show decide (m ∈ srtN (t.mks.getD i [])) = decide (m ∈ t.mks.getD i []) from decide_eq_decide.mpr (srtN_perm _).mem_iff]
      refine ⟨_, S1.dp, S1.sh, S1.nd, S1.dep, S1.len, ?_⟩
      rw [if_pos rfl]
      refine kb _ (k1 _ _ ?_)
      clear ka kb k1 S1
      have kpZ := ((kpH.then s28).then s29).then s30
      refine ifI fun A2 B2 ka kb => ?_
      walk_at "rd"
      refine ite_i (fun g => ?_) (fun g => kb _ ?_)
      · refine ⟨_, _, hx30, x, A, t, _, rfl, L30, ok, _, rfl, ?_⟩
        rw [decide_eq_true (by omega), if_neg (by decide)]
        refine kb _ ?_
        walk_at "rd"
        exact kpZ
      · walk_at "rd"
        exact kpZ
    rintro σ H9 ⟨v4, v5, v6, v7, v8, v9, v10, rfl, kp9⟩
    refine k0 _ _ ?_
    walk_at "rd"
    exact q H9 kp9
end
section
variable {P : Program} {w : World} {K : PySem.W.Frag} {mg : Str → Option Value} {base : Heap}
theorem ok__law_call (S : Src K mg "_law_call" s__law_call) (T : Tx P K mg) (C_Tree_M_holder_of : CalM P w K mg base (L2.CX P w) 4 (He.ga K "Tree") "holder_of" ["self", "thing"] (spNum K (fun t i => t.hol.getD i 0) fun _ => True)) (C_Tree_M_first_of : CalM P w K mg base (L2.CX P w) 4 (He.ga K "Tree") "first_of" ["self", "thing"] (spNum K (fun t i => t.fir.getD i 0) fun _ => True)) (C_Tree_M_beside_of : CalM P w K mg base (L2.CX P w) 4 (He.ga K "Tree") "beside_of" ["self", "thing"] (spNum K (fun t i => t.bes.getD i 0) fun _ => True)) (C_Tree_M_place_of : CalM P w K mg base (L2.CX P w) 4 (He.ga K "Tree") "place_of" ["self", "thing"] (spNum K (fun t i => topN t.hol t.n i) RankT)) (C_Tree_M_parts_of : CalM P w K mg base (L2.CX P w) 4 (He.ga K "Tree") "parts_of" ["self", "thing"] (spParts K)) (C_Tree_M_holds : CalM P w K mg base (L2.CX P w) 4 (He.ga K "Tree") "holds" ["self", "thing", "other"] (spHolds K)) (C_Tree_M_move : CalM P w K mg base (L2.CX P w) 5 (He.ga K "Tree") "move" ["self", "thing", "holder"] (spMove K)) (C_Tree_M_has_mark : CalM P w K mg base (L2.CX P w) 4 (He.ga K "Tree") "has_mark" ["self", "thing", "mark"] (spHas K)) (C_Tree_M_give : CalM P w K mg base (L2.CX P w) 5 (He.ga K "Tree") "give" ["self", "thing", "mark"] (spMarks K giveL)) (C_Tree_M_strip : CalM P w K mg base (L2.CX P w) 5 (He.ga K "Tree") "strip" ["self", "thing", "mark"] (spMarks K fun _ => stripL))  : CalG P w K mg base CX0 6 "_law_call" ["_law_tree", "_law_way", "_law_one", "_law_two"] (spLCall K) := by
  refine S.calG sc__law_call bn__law_call (fun vs H Q E h => ?_) (fun f cdv A outer s H vs Q E hG hr h => ?_)
  · first | (obtain ⟨rfl, _⟩ := h; rfl) | (obtain ⟨_, rfl, _⟩ := h; rfl) | (obtain ⟨_, _, rfl, _⟩ := h; rfl) | (obtain ⟨_, _, _, rfl, _⟩ := h; rfl) | (obtain ⟨_, _, _, _, rfl, _⟩ := h; rfl) | (obtain ⟨_, _, _, _, _, rfl, _⟩ := h; rfl) | (obtain ⟨_, _, _, _, _, _, rfl, _⟩ := h; rfl) | (obtain ⟨_, _, _, _, _, _, _, rfl, _⟩ := h; rfl) | (obtain ⟨_, _, _, _, _, _, _, _, rfl, _⟩ := h; rfl) | (obtain ⟨_, _, _, _, _, _, _, _, _, rfl, _⟩ := h; rfl) | (obtain ⟨_, _, _, _, _, _, _, _, _, _, rfl, _⟩ := h; rfl) | (obtain ⟨_, _, _, _, _, _, _, _, _, _, _, rfl, _⟩ := h; rfl) | (obtain ⟨_, _, _, _, _, _, _, _, _, _, _, _, rfl, _⟩ := h; rfl)
  · skip
    obtain ⟨f_Tree_M_holder_of, fd_Tree_M_holder_of, m_Tree_M_holder_of, b_Tree_M_holder_of, G_Tree_M_holder_of⟩ := C_Tree_M_holder_of.ex
    obtain ⟨f_Tree_M_first_of, fd_Tree_M_first_of, m_Tree_M_first_of, b_Tree_M_first_of, G_Tree_M_first_of⟩ := C_Tree_M_first_of.ex
    obtain ⟨f_Tree_M_beside_of, fd_Tree_M_beside_of, m_Tree_M_beside_of, b_Tree_M_beside_of, G_Tree_M_beside_of⟩ := C_Tree_M_beside_of.ex
    obtain ⟨f_Tree_M_place_of, fd_Tree_M_place_of, m_Tree_M_place_of, b_Tree_M_place_of, G_Tree_M_place_of⟩ := C_Tree_M_place_of.ex
    obtain ⟨f_Tree_M_parts_of, fd_Tree_M_parts_of, m_Tree_M_parts_of, b_Tree_M_parts_of, G_Tree_M_parts_of⟩ := C_Tree_M_parts_of.ex
    obtain ⟨f_Tree_M_holds, fd_Tree_M_holds, m_Tree_M_holds, b_Tree_M_holds, G_Tree_M_holds⟩ := C_Tree_M_holds.ex
    obtain ⟨f_Tree_M_move, fd_Tree_M_move, m_Tree_M_move, b_Tree_M_move, G_Tree_M_move⟩ := C_Tree_M_move.ex
    obtain ⟨f_Tree_M_has_mark, fd_Tree_M_has_mark, m_Tree_M_has_mark, b_Tree_M_has_mark, G_Tree_M_has_mark⟩ := C_Tree_M_has_mark.ex
    obtain ⟨f_Tree_M_give, fd_Tree_M_give, m_Tree_M_give, b_Tree_M_give, G_Tree_M_give⟩ := C_Tree_M_give.ex
    obtain ⟨f_Tree_M_strip, fd_Tree_M_strip, m_Tree_M_strip, b_Tree_M_strip, G_Tree_M_strip⟩ := C_Tree_M_strip.ex
    refine ⟨_, (pss_cons (Fx.ps_try_manyAs (i := 4) rfl rfl sc__law_call.nd rfl rfl takes0 (fun W pn xe tk _ => (pss_one (ps_if (pt_cmpR op_eq (pv 1) pe_int (nomark _)) (pss_one (ps_expr (Fx.pe_methT (pv 0) T.cl_Tree m_Tree_M_holder_of G_Tree_M_holder_of (hr.mono (by decide)) b_Tree_M_holder_of tk (Fx.pa_c (pv 2) pa_nil)))) (pss_one (ps_if (pt_cmpR op_eq (pv 1) pe_int (nomark _)) (pss_one (ps_expr (Fx.pe_methT (pv 0) T.cl_Tree m_Tree_M_first_of G_Tree_M_first_of (hr.mono (by decide)) b_Tree_M_first_of tk (Fx.pa_c (pv 2) pa_nil)))) (pss_one (ps_if (pt_cmpR op_eq (pv 1) pe_int (nomark _)) (pss_one (ps_expr (Fx.pe_methT (pv 0) T.cl_Tree m_Tree_M_beside_of G_Tree_M_beside_of (hr.mono (by decide)) b_Tree_M_beside_of tk (Fx.pa_c (pv 2) pa_nil)))) (pss_one (ps_if (pt_cmpR op_eq (pv 1) pe_int (nomark _)) (pss_one (ps_expr (Fx.pe_methT (pv 0) T.cl_Tree m_Tree_M_place_of G_Tree_M_place_of (hr.mono (by decide)) b_Tree_M_place_of tk (Fx.pa_c (pv 2) pa_nil)))) (pss_one (ps_if (pt_cmpR op_eq (pv 1) pe_int (nomark _)) (pss_one (ps_expr (Fx.pe_methT (pv 0) T.cl_Tree m_Tree_M_parts_of G_Tree_M_parts_of (hr.mono (by decide)) b_Tree_M_parts_of tk (Fx.pa_c (pv 2) pa_nil)))) (pss_one (ps_if (pt_cmpR op_eq (pv 1) pe_int (nomark _)) (pss_one (ps_expr (Fx.pe_methT (pv 0) T.cl_Tree m_Tree_M_holds G_Tree_M_holds (hr.mono (by decide)) b_Tree_M_holds tk (Fx.pa_c (pv 2) (Fx.pa_c (pv 3) pa_nil))))) (pss_one (ps_if (pt_cmpR op_eq (pv 1) pe_int (nomark _)) (pss_one (ps_expr (Fx.pe_methT (pv 0) T.cl_Tree m_Tree_M_move G_Tree_M_move (hr.mono (by decide)) b_Tree_M_move tk (Fx.pa_c (pv 2) (Fx.pa_c (pv 3) pa_nil))))) (pss_one (ps_if (pt_cmpR op_eq (pv 1) pe_int (nomark _)) (pss_one (ps_expr (Fx.pe_methT (pv 0) T.cl_Tree m_Tree_M_has_mark G_Tree_M_has_mark (hr.mono (by decide)) b_Tree_M_has_mark tk (Fx.pa_c (pv 2) (Fx.pa_c (pv 3) pa_nil))))) (pss_one (ps_if (pt_cmpR op_eq (pv 1) pe_int (nomark _)) (pss_one (ps_expr (Fx.pe_methT (pv 0) T.cl_Tree m_Tree_M_give G_Tree_M_give (hr.mono (by decide)) b_Tree_M_give tk (Fx.pa_c (pv 2) (Fx.pa_c (pv 3) pa_nil))))) (pss_one (ps_expr (Fx.pe_methT (pv 0) T.cl_Tree m_Tree_M_strip G_Tree_M_strip (hr.mono (by decide)) b_Tree_M_strip tk (Fx.pa_c (pv 2) (Fx.pa_c (pv 3) pa_nil)))))))))))))))))))))))) (HdsAs.cons ⟨rfl, by decide, Or.inl T.g_NoThing⟩ (fun a oe cls d pn hz hf => (pss_one (ps_ret (pe_lst (Fx.pa_c pe_str (Fx.pa_c (Fx.pe_cB (Fx.call_reprK (K := K) rfl hG hr.units) T.b_repr (by decide +kernel) (Fx.pa_c (pe_xf (XC.xfc T.x_NoThing) T.x_NoThing.noF hz hf (pv 4)) pa_nil)) (Fx.pa_c (pe_and (Fx.pe_cB (call_isY hz hf) T.b_isinstance (by decide +kernel) (Fx.pa_c (pv 4) (Fx.pa_c (pe_glob (v := .ref (He.ga K "FableError")) rfl T.g_FableError rfl) pa_nil))) (pe_one (pe_not (Fx.pe_cB (call_isY hz hf) T.b_isinstance (by decide +kernel) (Fx.pa_c (pv 4) (Fx.pa_c (pe_glob (v := .ref (He.ga K "BadMark")) rfl T.g_BadMark rfl) pa_nil)))))) pa_nil))))))) (HdsAs.cons ⟨rfl, by decide, Or.inl T.g_BadMark⟩ (fun a oe cls d pn hz hf => (pss_one (ps_ret (pe_lst (Fx.pa_c pe_str (Fx.pa_c (Fx.pe_cB (Fx.call_reprK (K := K) rfl hG hr.units) T.b_repr (by decide +kernel) (Fx.pa_c (pe_xf (XC.xfc T.x_BadMark) T.x_BadMark.noF hz hf (pv 4)) pa_nil)) (Fx.pa_c (pe_and (Fx.pe_cB (call_isY hz hf) T.b_isinstance (by decide +kernel) (Fx.pa_c (pv 4) (Fx.pa_c (pe_glob (v := .ref (He.ga K "FableError")) rfl T.g_FableError rfl) pa_nil))) (pe_one (pe_not (Fx.pe_cB (call_isY hz hf) T.b_isinstance (by decide +kernel) (Fx.pa_c (pv 4) (Fx.pa_c (pe_glob (v := .ref (He.ga K "NoThing")) rfl T.g_NoThing rfl) pa_nil)))))) pa_nil))))))) HdsAs.nil)))
        (pss_one (ps_ret (pe_lst (Fx.pa_c pe_str (Fx.pa_c pe_str (Fx.pa_c pe_bl pa_nil))))))), ?_⟩
    obtain ⟨x, A, t, P, way, v, w, word, z, d, rfl, L, G, cb, sh, q⟩ := h
    have ok := G.ok
    have F := G.fo
    obtain ⟨dx, hx⟩ := L.ins
    refine seqI fun K1 k1 => ?_
    generalize hW : wManyAs _ 4 _ _ _ = W
    have eT : ∀ d0 H', word = "thing" → Same H H' → H d0 = none → H' d0 = some (.xd [("thing", z)]) → W (.ref (He.ga K "NoThing")) (some d0) [some (.ref x), some (.int way), some v, some w, none] H' := by
      intro d0 H' ew s nd hd
      rw [← hW]
      refine ⟨true, T.m_NT, fun _ a0 na => ?_, fun z => Bool.noConfusion z⟩
      have efs : ∃ fs, H' d0 = some (.xd fs) := ⟨_, hd⟩
      have S1 := sh.same s
      walk_at "rd"
      simp only [rIsY, tXf, rRepr]
      walk_at "rd"
      simp only [Value.ref.injEq, exists_eq_left', clsVal, Option.some.injEq, T.e_NoThing, T.k_NF, T.k_NB, true_and, Bool.not_true, Bool.not_false, Bool.false_eq_true, if_false, hd, HO.xd.injEq, exists_eq_left, exists_eq', List.lookup, beq_self_eq_true]
      refine ⟨d, S1.dp, S1.sh, S1.nd, S1.dep, S1.len, ?_⟩
      rw [if_pos trivial]
      subst ew
      exact ⟨by decide, fun p np => q p _ (s.trans (same_new np)) (s.free np) upd_same⟩
    have eM : ∀ d0 H', word = "mark" → Same H H' → H d0 = none → H' d0 = some (.xd [("mark", z)]) → W (.ref (He.ga K "BadMark")) (some d0) [some (.ref x), some (.int way), some v, some w, none] H' := by
      intro d0 H' ew s nd hd
      rw [← hW]
      refine ⟨false, T.m_BN, fun z => Bool.noConfusion z, fun _ => ⟨true, T.m_BM, fun _ a0 na => ?_, fun z => Bool.noConfusion z⟩⟩
      have efs : ∃ fs, H' d0 = some (.xd fs) := ⟨_, hd⟩
      have S1 := sh.same s
      walk_at "rd"
      simp only [rIsY, tXf, rRepr]
      walk_at "rd"
      simp only [Value.ref.injEq, exists_eq_left', clsVal, Option.some.injEq, T.e_BadMark, T.k_BF, T.k_BN, true_and, Bool.not_true, Bool.not_false, Bool.false_eq_true, if_false, hd, HO.xd.injEq, exists_eq_left, exists_eq', List.lookup, beq_self_eq_true]
      refine ⟨d, S1.dp, S1.sh, S1.nd, S1.dep, S1.len, ?_⟩
      rw [if_pos trivial]
      subst ew
      exact ⟨by decide, fun p np => q p _ (s.trans (same_new np)) (s.free np) upd_same⟩
    clear hW
    rcases cb with ⟨w0, w1, rfl, rfl, hb⟩ | ⟨w0, w1, rfl, rfl, hb⟩ | ⟨w0, w1, rfl, rfl, ⟨i, rfl, hi⟩, hb⟩ | ⟨w0, w1, rfl, rfl, hb⟩ | ⟨w0, w1, rfl, rfl, ⟨i, rfl, hi⟩, hb⟩
    · obtain rfl | rfl | rfl | rfl | rfl : way = 0 ∨ way = 1 ∨ way = 2 ∨ way = 3 ∨ way = 4 := by omega
      · refine ifI fun A2 B2 ka kb => ?_
        walk_at "rd"
        try rw [if_pos (by omega)]
        refine ka _ ?_
        clear ka kb
        walk_at "rd"
        exact ⟨_, _, hx, rfl, x, A, t, _, rfl, L, ok, trivial, .inr ⟨hb, fun d0 H' s nd hd => eT d0 H' rfl s nd hd⟩⟩
      · refine ifI fun A2 B2 ka kb => ?_
        walk_at "rd"
        rw [if_neg (by omega)]
        refine kb _ ?_
        clear ka kb
        refine ifI fun A2 B2 ka kb => ?_
        walk_at "rd"
        try rw [if_pos (by omega)]
        refine ka _ ?_
        clear ka kb
        walk_at "rd"
        exact ⟨_, _, hx, rfl, x, A, t, _, rfl, L, ok, trivial, .inr ⟨hb, fun d0 H' s nd hd => eT d0 H' rfl s nd hd⟩⟩
      · refine ifI fun A2 B2 ka kb => ?_
        walk_at "rd"
        rw [if_neg (by omega)]
        refine kb _ ?_
        clear ka kb
        refine ifI fun A2 B2 ka kb => ?_
        walk_at "rd"
        rw [if_neg (by omega)]
        refine kb _ ?_
        clear ka kb
        refine ifI fun A2 B2 ka kb => ?_
        walk_at "rd"
        try rw [if_pos (by omega)]
        refine ka _ ?_
        clear ka kb
        walk_at "rd"
        exact ⟨_, _, hx, rfl, x, A, t, _, rfl, L, ok, trivial, .inr ⟨hb, fun d0 H' s nd hd => eT d0 H' rfl s nd hd⟩⟩
      · refine ifI fun A2 B2 ka kb => ?_
        walk_at "rd"
        rw [if_neg (by omega)]
        refine kb _ ?_
        clear ka kb
        refine ifI fun A2 B2 ka kb => ?_
        walk_at "rd"
        rw [if_neg (by omega)]
        refine kb _ ?_
        clear ka kb
        refine ifI fun A2 B2 ka kb => ?_
        walk_at "rd"
        rw [if_neg (by omega)]
        refine kb _ ?_
        clear ka kb
        refine ifI fun A2 B2 ka kb => ?_
        walk_at "rd"
        try rw [if_pos (by omega)]
        refine ka _ ?_
        clear ka kb
        walk_at "rd"
        exact ⟨_, _, hx, rfl, x, A, t, _, rfl, L, ok, ⟨F.h0, F.rk⟩, .inr ⟨hb, fun d0 H' s nd hd => eT d0 H' rfl s nd hd⟩⟩
      · refine ifI fun A2 B2 ka kb => ?_
        walk_at "rd"
        rw [if_neg (by omega)]
        refine kb _ ?_
        clear ka kb
        refine ifI fun A2 B2 ka kb => ?_
        walk_at "rd"
        rw [if_neg (by omega)]
        refine kb _ ?_
        clear ka kb
        refine ifI fun A2 B2 ka kb => ?_
        walk_at "rd"
        rw [if_neg (by omega)]
        refine kb _ ?_
        clear ka kb
        refine ifI fun A2 B2 ka kb => ?_
        walk_at "rd"
        rw [if_neg (by omega)]
        refine kb _ ?_
        clear ka kb
        refine ifI fun A2 B2 ka kb => ?_
        walk_at "rd"
        try rw [if_pos (by omega)]
        refine ka _ ?_
        clear ka kb
        walk_at "rd"
        exact ⟨_, _, hx, rfl, x, A, t, P, _, rfl, L, ok, F, .inr ⟨hb, fun d0 H' s nd hd => eT d0 H' rfl s nd hd⟩⟩
    · obtain rfl | rfl : way = 5 ∨ way = 6 := by omega
      · refine ifI fun A2 B2 ka kb => ?_
        walk_at "rd"
        rw [if_neg (by omega)]
        refine kb _ ?_
        clear ka kb
        refine ifI fun A2 B2 ka kb => ?_
        walk_at "rd"
        rw [if_neg (by omega)]
        refine kb _ ?_
        clear ka kb
        refine ifI fun A2 B2 ka kb => ?_
        walk_at "rd"
        rw [if_neg (by omega)]
        refine kb _ ?_
        clear ka kb
        refine ifI fun A2 B2 ka kb => ?_
        walk_at "rd"
        rw [if_neg (by omega)]
        refine kb _ ?_
        clear ka kb
        refine ifI fun A2 B2 ka kb => ?_
        walk_at "rd"
        rw [if_neg (by omega)]
        refine kb _ ?_
        clear ka kb
        refine ifI fun A2 B2 ka kb => ?_
        walk_at "rd"
        try rw [if_pos (by omega)]
        refine ka _ ?_
        clear ka kb
        walk_at "rd"
        exact ⟨_, _, hx, rfl, x, A, t, _, _, rfl, L, ok, ⟨F.h0, F.rk⟩, .inr (.inl ⟨hb, fun d0 H' s nd hd => eT d0 H' rfl s nd hd⟩)⟩
      · refine ifI fun A2 B2 ka kb => ?_
        walk_at "rd"
        rw [if_neg (by omega)]
        refine kb _ ?_
        clear ka kb
        refine ifI fun A2 B2 ka kb => ?_
        walk_at "rd"
        rw [if_neg (by omega)]
        refine kb _ ?_
        clear ka kb
        refine ifI fun A2 B2 ka kb => ?_
        walk_at "rd"
        rw [if_neg (by omega)]
        refine kb _ ?_
        clear ka kb
        refine ifI fun A2 B2 ka kb => ?_
        walk_at "rd"
        rw [if_neg (by omega)]
        refine kb _ ?_
        clear ka kb
        refine ifI fun A2 B2 ka kb => ?_
        walk_at "rd"
        rw [if_neg (by omega)]
        refine kb _ ?_
        clear ka kb
        refine ifI fun A2 B2 ka kb => ?_
        walk_at "rd"
        rw [if_neg (by omega)]
        refine kb _ ?_
        clear ka kb
        refine ifI fun A2 B2 ka kb => ?_
        walk_at "rd"
        try rw [if_pos (by omega)]
        refine ka _ ?_
        clear ka kb
        walk_at "rd"
        exact ⟨_, _, hx, rfl, x, A, t, P, _, _, rfl, L, ok, F, .inr (.inl ⟨hb, fun d0 H' s nd hd => eT d0 H' rfl s nd hd⟩)⟩
    · obtain rfl | rfl : way = 5 ∨ way = 6 := by omega
      · refine ifI fun A2 B2 ka kb => ?_
        walk_at "rd"
        rw [if_neg (by omega)]
        refine kb _ ?_
        clear ka kb
        refine ifI fun A2 B2 ka kb => ?_
        walk_at "rd"
        rw [if_neg (by omega)]
        refine kb _ ?_
        clear ka kb
        refine ifI fun A2 B2 ka kb => ?_
        walk_at "rd"
        rw [if_neg (by omega)]
        refine kb _ ?_
        clear ka kb
        refine ifI fun A2 B2 ka kb => ?_
        walk_at "rd"
        rw [if_neg (by omega)]
        refine kb _ ?_
        clear ka kb
        refine ifI fun A2 B2 ka kb => ?_
        walk_at "rd"
        rw [if_neg (by omega)]
        refine kb _ ?_
        clear ka kb
        refine ifI fun A2 B2 ka kb => ?_
        walk_at "rd"
        try rw [if_pos (by omega)]
        refine ka _ ?_
        clear ka kb
        walk_at "rd"
        exact ⟨_, _, hx, rfl, x, A, t, _, _, rfl, L, ok, ⟨F.h0, F.rk⟩, .inr (.inr ⟨i, rfl, hi, hb, fun d0 H' s nd hd => eT d0 H' rfl s nd hd⟩)⟩
      · refine ifI fun A2 B2 ka kb => ?_
        walk_at "rd"
        rw [if_neg (by omega)]
        refine kb _ ?_
        clear ka kb
        refine ifI fun A2 B2 ka kb => ?_
        walk_at "rd"
        rw [if_neg (by omega)]
        refine kb _ ?_
        clear ka kb
        refine ifI fun A2 B2 ka kb => ?_
        walk_at "rd"
        rw [if_neg (by omega)]
        refine kb _ ?_
        clear ka kb
        refine ifI fun A2 B2 ka kb => ?_
        walk_at "rd"
        rw [if_neg (by omega)]
        refine kb _ ?_
        clear ka kb
        refine ifI fun A2 B2 ka kb => ?_
        walk_at "rd"
        rw [if_neg (by omega)]
        refine kb _ ?_
        clear ka kb
        refine ifI fun A2 B2 ka kb => ?_
        walk_at "rd"
        rw [if_neg (by omega)]
        refine kb _ ?_
        clear ka kb
        refine ifI fun A2 B2 ka kb => ?_
        walk_at "rd"
        try rw [if_pos (by omega)]
        refine ka _ ?_
        clear ka kb
        walk_at "rd"
        exact ⟨_, _, hx, rfl, x, A, t, P, _, _, rfl, L, ok, F, .inr (.inr ⟨i, rfl, hi, hb, fun d0 H' s nd hd => eT d0 H' rfl s nd hd⟩)⟩
    · obtain rfl | rfl | rfl : way = 7 ∨ way = 8 ∨ way = 9 := by omega
      · refine ifI fun A2 B2 ka kb => ?_
        walk_at "rd"
        rw [if_neg (by omega)]
        refine kb _ ?_
        clear ka kb
        refine ifI fun A2 B2 ka kb => ?_
        walk_at "rd"
        rw [if_neg (by omega)]
        refine kb _ ?_
        clear ka kb
        refine ifI fun A2 B2 ka kb => ?_
        walk_at "rd"
        rw [if_neg (by omega)]
        refine kb _ ?_
        clear ka kb
        refine ifI fun A2 B2 ka kb => ?_
        walk_at "rd"
        rw [if_neg (by omega)]
        refine kb _ ?_
        clear ka kb
        refine ifI fun A2 B2 ka kb => ?_
        walk_at "rd"
        rw [if_neg (by omega)]
        refine kb _ ?_
        clear ka kb
        refine ifI fun A2 B2 ka kb => ?_
        walk_at "rd"
        rw [if_neg (by omega)]
        refine kb _ ?_
        clear ka kb
        refine ifI fun A2 B2 ka kb => ?_
        walk_at "rd"
        rw [if_neg (by omega)]
        refine kb _ ?_
        clear ka kb
        refine ifI fun A2 B2 ka kb => ?_
        walk_at "rd"
        try rw [if_pos (by omega)]
        refine ka _ ?_
        clear ka kb
        walk_at "rd"
        exact ⟨_, _, hx, rfl, x, A, t, _, _, rfl, L, ok, .inr (.inl ⟨hb, fun d0 H' s nd hd => eT d0 H' rfl s nd hd⟩)⟩
      · refine ifI fun A2 B2 ka kb => ?_
        walk_at "rd"
        rw [if_neg (by omega)]
        refine kb _ ?_
        clear ka kb
        refine ifI fun A2 B2 ka kb => ?_
        walk_at "rd"
        rw [if_neg (by omega)]
        refine kb _ ?_
        clear ka kb
        refine ifI fun A2 B2 ka kb => ?_
        walk_at "rd"
        rw [if_neg (by omega)]
        refine kb _ ?_
        clear ka kb
        refine ifI fun A2 B2 ka kb => ?_
        walk_at "rd"
        rw [if_neg (by omega)]
        refine kb _ ?_
        clear ka kb
        refine ifI fun A2 B2 ka kb => ?_
        walk_at "rd"
        rw [if_neg (by omega)]
        refine kb _ ?_
        clear ka kb
        refine ifI fun A2 B2 ka kb => ?_
        walk_at "rd"
        rw [if_neg (by omega)]
        refine kb _ ?_
        clear ka kb
        refine ifI fun A2 B2 ka kb => ?_
        walk_at "rd"
        rw [if_neg (by omega)]
        refine kb _ ?_
        clear ka kb
        refine ifI fun A2 B2 ka kb => ?_
        walk_at "rd"
        rw [if_neg (by omega)]
        refine kb _ ?_
        clear ka kb
        refine ifI fun A2 B2 ka kb => ?_
        walk_at "rd"
        try rw [if_pos (by omega)]
        refine ka _ ?_
        clear ka kb
        walk_at "rd"
        exact ⟨_, _, hx, rfl, x, A, t, _, _, rfl, L, ok, .inr (.inl ⟨hb, fun d0 H' s nd hd => eT d0 H' rfl s nd hd⟩)⟩
      · refine ifI fun A2 B2 ka kb => ?_
        walk_at "rd"
        rw [if_neg (by omega)]
        refine kb _ ?_
        clear ka kb
        refine ifI fun A2 B2 ka kb => ?_
        walk_at "rd"
        rw [if_neg (by omega)]
        refine kb _ ?_
        clear ka kb
        refine ifI fun A2 B2 ka kb => ?_
        walk_at "rd"
        rw [if_neg (by omega)]
        refine kb _ ?_
        clear ka kb
        refine ifI fun A2 B2 ka kb => ?_
        walk_at "rd"
        rw [if_neg (by omega)]
        refine kb _ ?_
        clear ka kb
        refine ifI fun A2 B2 ka kb => ?_
        walk_at "rd"
        rw [if_neg (by omega)]
        refine kb _ ?_
        clear ka kb
        refine ifI fun A2 B2 ka kb => ?_
        walk_at "rd"
        rw [if_neg (by omega)]
        refine kb _ ?_
        clear ka kb
        refine ifI fun A2 B2 ka kb => ?_
        walk_at "rd"
        rw [if_neg (by omega)]
        refine kb _ ?_
        clear ka kb
        refine ifI fun A2 B2 ka kb => ?_
        walk_at "rd"
        rw [if_neg (by omega)]
        refine kb _ ?_
        clear ka kb
        refine ifI fun A2 B2 ka kb => ?_
        walk_at "rd"
        rw [if_neg (by omega)]
        refine kb _ ?_
        clear ka kb
        walk_at "rd"
        exact ⟨_, _, hx, rfl, x, A, t, _, _, rfl, L, ok, .inr (.inl ⟨hb, fun d0 H' s nd hd => eT d0 H' rfl s nd hd⟩)⟩
    · obtain rfl | rfl | rfl : way = 7 ∨ way = 8 ∨ way = 9 := by omega
      · refine ifI fun A2 B2 ka kb => ?_
        walk_at "rd"
        rw [if_neg (by omega)]
        refine kb _ ?_
        clear ka kb
        refine ifI fun A2 B2 ka kb => ?_
        walk_at "rd"
        rw [if_neg (by omega)]
        refine kb _ ?_
        clear ka kb
        refine ifI fun A2 B2 ka kb => ?_
        walk_at "rd"
        rw [if_neg (by omega)]
        refine kb _ ?_
        clear ka kb
        refine ifI fun A2 B2 ka kb => ?_
        walk_at "rd"
        rw [if_neg (by omega)]
        refine kb _ ?_
        clear ka kb
        refine ifI fun A2 B2 ka kb => ?_
        walk_at "rd"
        rw [if_neg (by omega)]
        refine kb _ ?_
        clear ka kb
        refine ifI fun A2 B2 ka kb => ?_
        walk_at "rd"
        rw [if_neg (by omega)]
        refine kb _ ?_
        clear ka kb
        refine ifI fun A2 B2 ka kb => ?_
        walk_at "rd"
        rw [if_neg (by omega)]
        refine kb _ ?_
        clear ka kb
        refine ifI fun A2 B2 ka kb => ?_
        walk_at "rd"
        try rw [if_pos (by omega)]
        refine ka _ ?_
        clear ka kb
        walk_at "rd"
        exact ⟨_, _, hx, rfl, x, A, t, _, _, rfl, L, ok, .inr (.inr ⟨i, rfl, hi, hb, fun d0 H' s nd hd => eM d0 H' rfl s nd hd⟩)⟩
      · refine ifI fun A2 B2 ka kb => ?_
        walk_at "rd"
        rw [if_neg (by omega)]
        refine kb _ ?_
        clear ka kb
        refine ifI fun A2 B2 ka kb => ?_
        walk_at "rd"
        rw [if_neg (by omega)]
        refine kb _ ?_
        clear ka kb
        refine ifI fun A2 B2 ka kb => ?_
        walk_at "rd"
        rw [if_neg (by omega)]
        refine kb _ ?_
        clear ka kb
        refine ifI fun A2 B2 ka kb => ?_
        walk_at "rd"
        rw [if_neg (by omega)]
        refine kb _ ?_
        clear ka kb
        refine ifI fun A2 B2 ka kb => ?_
        walk_at "rd"
        rw [if_neg (by omega)]
        refine kb _ ?_
        clear ka kb
        refine ifI fun A2 B2 ka kb => ?_
        walk_at "rd"
        rw [if_neg (by omega)]
        refine kb _ ?_
        clear ka kb
        refine ifI fun A2 B2 ka kb => ?_
        walk_at "rd"
        rw [if_neg (by omega)]
        refine kb _ ?_
        clear ka kb
        refine ifI fun A2 B2 ka kb => ?_
        walk_at "rd"
        rw [if_neg (by omega)]
        refine kb _ ?_
        clear ka kb
        refine ifI fun A2 B2 ka kb => ?_
        walk_at "rd"
        try rw [if_pos (by omega)]
        refine ka _ ?_
        clear ka kb
        walk_at "rd"
        exact ⟨_, _, hx, rfl, x, A, t, _, _, rfl, L, ok, .inr (.inr ⟨i, rfl, hi, hb, fun d0 H' s nd hd => eM d0 H' rfl s nd hd⟩)⟩
      · refine ifI fun A2 B2 ka kb => ?_
        walk_at "rd"
        rw [if_neg (by omega)]
        refine kb _ ?_
        clear ka kb
        refine ifI fun A2 B2 ka kb => ?_
        walk_at "rd"
        rw [if_neg (by omega)]
        refine kb _ ?_
        clear ka kb
        refine ifI fun A2 B2 ka kb => ?_
        walk_at "rd"
        rw [if_neg (by omega)]
        refine kb _ ?_
        clear ka kb
        refine ifI fun A2 B2 ka kb => ?_
        walk_at "rd"
        rw [if_neg (by omega)]
        refine kb _ ?_
        clear ka kb
        refine ifI fun A2 B2 ka kb => ?_
        walk_at "rd"
        rw [if_neg (by omega)]
        refine kb _ ?_
        clear ka kb
        refine ifI fun A2 B2 ka kb => ?_
        walk_at "rd"
        rw [if_neg (by omega)]
        refine kb _ ?_
        clear ka kb
        refine ifI fun A2 B2 ka kb => ?_
        walk_at "rd"
        rw [if_neg (by omega)]
        refine kb _ ?_
        clear ka kb
        refine ifI fun A2 B2 ka kb => ?_
        walk_at "rd"
        rw [if_neg (by omega)]
        refine kb _ ?_
        clear ka kb
        refine ifI fun A2 B2 ka kb => ?_
        walk_at "rd"
        rw [if_neg (by omega)]
        refine kb _ ?_
        clear ka kb
        walk_at "rd"
        exact ⟨_, _, hx, rfl, x, A, t, _, _, rfl, L, ok, .inr (.inr ⟨i, rfl, hi, hb, fun d0 H' s nd hd => eM d0 H' rfl s nd hd⟩)⟩
end
section
variable {P : Program} {w : World} {K : PySem.W.Frag} {mg : Str → Option Value} {base : Heap}
theorem ok__law_odd (S : Src K mg "_law_odd" s__law_odd) (T : Tx P K mg) (C__law_pick : Cal P w K mg base CX0 1 "_law_pick" ["_law_bag_here", "_law_many"] spPick) (C__law_choice : Cal P w K mg base CX0 2 "_law_choice" ["_law_bag_here", "_law_things"] spChoiceL)  : Cal P w K mg base CX0 3 "_law_odd" ["_law_bag_here", "_law_many"] (spLOdd K) := by
  refine S.cal sc__law_odd bn__law_odd (fun vs H Q E h => ?_) (fun f cdv A outer s H vs Q E hr h => ?_)
  · first | (obtain ⟨rfl, _⟩ := h; rfl) | (obtain ⟨_, rfl, _⟩ := h; rfl) | (obtain ⟨_, _, rfl, _⟩ := h; rfl) | (obtain ⟨_, _, _, rfl, _⟩ := h; rfl) | (obtain ⟨_, _, _, _, rfl, _⟩ := h; rfl) | (obtain ⟨_, _, _, _, _, rfl, _⟩ := h; rfl) | (obtain ⟨_, _, _, _, _, _, rfl, _⟩ := h; rfl) | (obtain ⟨_, _, _, _, _, _, _, rfl, _⟩ := h; rfl) | (obtain ⟨_, _, _, _, _, _, _, _, rfl, _⟩ := h; rfl) | (obtain ⟨_, _, _, _, _, _, _, _, _, rfl, _⟩ := h; rfl) | (obtain ⟨_, _, _, _, _, _, _, _, _, _, rfl, _⟩ := h; rfl) | (obtain ⟨_, _, _, _, _, _, _, _, _, _, _, rfl, _⟩ := h; rfl) | (obtain ⟨_, _, _, _, _, _, _, _, _, _, _, _, rfl, _⟩ := h; rfl)
  · skip
    refine ⟨_, (pss_cons (ps_set (i := 2) sc__law_odd.nd rfl (Or.inl rfl) (Fx.pe_cal C__law_pick (hr.mono (by decide)) pass0 (Fx.pa_c (pv 0) (Fx.pa_c pe_int pa_nil))))
        (pss_one (ps_ret (Fx.pe_cal C__law_choice (hr.mono (by decide)) pass0 (Fx.pa_c (pv 0) (Fx.pa_c (pe_lst (Fx.pa_c (pe_un un_neg pe_int) (Fx.pa_c (pe_op op_add (pv 1) pe_int) (Fx.pa_c (pe_op op_add (pe_op op_add (pv 1) pe_int) (pv 2)) (Fx.pa_c (pe_op op_sub (pe_un un_neg pe_int) (pv 2)) (Fx.pa_c pe_bl (Fx.pa_c pe_bl (Fx.pa_c pe_non (Fx.pa_c pe_str (Fx.pa_c (pe_tup (Fx.pa_c pe_int pa_nil)) (Fx.pa_c (pe_op op_pow pe_int pe_int) pa_nil))))))))))) pa_nil)))))), ?_⟩
    obtain ⟨b, n, rfl, hB, n60, q⟩ := h
    refine seqI fun K1 k1 => ?_
    walk_at "rd"
    refine ⟨b, _, rfl, hB, by decide, by decide, fun m H1 m0 m1 kp1 => k1 _ _ ?_⟩
    clear k1
    walk_at "rd"
    refine ⟨by decide, fun tq ntq => ⟨⟨by decide, by decide, by decide⟩, by decide, fun lq nlq => ?_⟩⟩
    have s2 := same_new (o := .tup [.int 1]) ntq
    have s3 := same_new (o := .lst [.int (-1), .int ((n : Int) + 1), .int ((n : Int) + 2 + m), .int (-2 - m), .bl true, .bl false, .non, .str "1", .ref tq, .int (10 ^ Int.toNat 39)]) nlq
    have ht := s3 _ _ (upd_same (H := H1) (a := tq) (o := .tup [.int 1]))
    have hl : (upd (upd H1 tq (.tup [.int 1])) lq (.lst [.int (-1), .int ((n : Int) + 1), .int ((n : Int) + 2 + m), .int (-2 - m), .bl true, .bl false, .non, .str "1", .ref tq, .int (10 ^ Int.toNat 39)])) lq = _ := upd_same
    have kp3 := kp1.then (s2.trans s3)
    show spChoiceL [.ref b, .ref lq] (upd (upd H1 tq (.tup [.int 1])) lq (.lst [.int (-1), .int ((n : Int) + 1), .int ((n : Int) + 2 + m), .int (-2 - m), .bl true, .bl false, .non, .str "1", .ref tq, .int (10 ^ Int.toNat 39)])) _ _
    generalize upd (upd H1 tq (.tup [.int 1])) lq (.lst [.int (-1), .int ((n : Int) + 1), .int ((n : Int) + 2 + m), .int (-2 - m), .bl true, .bl false, .non, .str "1", .ref tq, .int (10 ^ Int.toNat 39)]) = H3 at ht hl kp3
    refine ⟨b, lq, _, rfl, kp3.bag, hl, (show 0 < 10 by decide), (show 10 ≤ 100000 by decide), fun v H4 hv kp4 => ?_⟩
    have kp := kp3.trans kp4
    have ht4 := kp4.tup kp3.bag ht
    simp only [List.mem_cons, List.not_mem_nil, or_false] at hv
    rcases hv with rfl | rfl | rfl | rfl | rfl | rfl | rfl | rfl | rfl | rfl
    · exact q _ _ H4 kp (.inr ⟨_, rfl, by omega⟩) (shw_int (by decide) (by decide))
    · exact q _ _ H4 kp (.inr ⟨_, rfl, by omega⟩) (shw_int (by omega) (by omega))
    · exact q _ _ H4 kp (.inr ⟨_, rfl, by omega⟩) (shw_int (by omega) (by omega))
    · exact q _ _ H4 kp (.inr ⟨_, rfl, by omega⟩) (shw_int (by omega) (by omega))
    · exact q _ _ H4 kp (.inl (.inl ⟨_, rfl⟩)) (shw_bl _)
    · exact q _ _ H4 kp (.inl (.inl ⟨_, rfl⟩)) (shw_bl _)
    · exact q _ _ H4 kp (.inl (.inr ⟨_, tyv_non, kb_none_int⟩)) shw_non
    · exact q _ (.str "1") H4 kp (.inl (.inr ⟨_, tyv_str, kb_str_int⟩)) ⟨.str _, by decide, rfl, by decide, by decide +kernel, by decide +kernel⟩
    · exact q _ (.tuple [.int 1]) H4 kp (.inl (.inr ⟨_, tyv_tp ht4, kb_tuple_int⟩)) ⟨.tup (.inl (.inl ht4)) (.cons (.int 1) .nil), by decide, rfl, by decide, by decide +kernel, by decide +kernel⟩
    · exact q _ _ H4 kp (.inr ⟨_, rfl, big_no (by omega)⟩) shw_big
end
section
variable {P : Program} {w : World} {K : PySem.W.Frag} {mg : Str → Option Value} {base : Heap}
theorem ok__law_refused (S : Src K mg "_law_refused" s__law_refused) (T : Tx P K mg) (C__law_pick : Cal P w K mg base CX0 1 "_law_pick" ["_law_bag_here", "_law_many"] spPick) (C__law_odd : Cal P w K mg base CX0 3 "_law_odd" ["_law_bag_here", "_law_many"] (spLOdd K)) (C__law_call : CalG P w K mg base CX0 6 "_law_call" ["_law_tree", "_law_way", "_law_one", "_law_two"] (spLCall K)) (C__law_one_in : Cal P w K mg base CX0 2 "_law_one_in" ["_law_bag_here", "_law_many"] spOneIn) (C__law_choice : Cal P w K mg base CX0 2 "_law_choice" ["_law_bag_here", "_law_things"] spChoiceL)  : CalG P w K mg base CX0 7 "_law_refused" ["_law_bag_here", "_law_tree", "_law_many"] (spLRef K) := by
  refine S.calG sc__law_refused bn__law_refused (fun vs H Q E h => ?_) (fun f cdv A outer s H vs Q E hG hr h => ?_)
  · first | (obtain ⟨rfl, _⟩ := h; rfl) | (obtain ⟨_, rfl, _⟩ := h; rfl) | (obtain ⟨_, _, rfl, _⟩ := h; rfl) | (obtain ⟨_, _, _, rfl, _⟩ := h; rfl) | (obtain ⟨_, _, _, _, rfl, _⟩ := h; rfl) | (obtain ⟨_, _, _, _, _, rfl, _⟩ := h; rfl) | (obtain ⟨_, _, _, _, _, _, rfl, _⟩ := h; rfl) | (obtain ⟨_, _, _, _, _, _, _, rfl, _⟩ := h; rfl) | (obtain ⟨_, _, _, _, _, _, _, _, rfl, _⟩ := h; rfl) | (obtain ⟨_, _, _, _, _, _, _, _, _, rfl, _⟩ := h; rfl) | (obtain ⟨_, _, _, _, _, _, _, _, _, _, rfl, _⟩ := h; rfl) | (obtain ⟨_, _, _, _, _, _, _, _, _, _, _, rfl, _⟩ := h; rfl) | (obtain ⟨_, _, _, _, _, _, _, _, _, _, _, _, rfl, _⟩ := h; rfl)
  · skip
    refine ⟨_, (pss_cons (ps_set (i := 3) sc__law_refused.nd rfl (Or.inl rfl) (Fx.pe_cal C__law_pick (hr.mono (by decide)) pass0 (Fx.pa_c (pv 0) (Fx.pa_c pe_int pa_nil))))
        (pss_cons (ps_set (i := 4) sc__law_refused.nd rfl (Or.inl rfl) (Fx.pe_cal C__law_odd (hr.mono (by decide)) pass0 (Fx.pa_c (pv 0) (Fx.pa_c (pv 2) pa_nil))))
        (pss_cons (ps_set (i := 5) sc__law_refused.nd rfl (Or.inl rfl) (Fx.pe_cal C__law_pick (hr.mono (by decide)) pass0 (Fx.pa_c (pv 0) (Fx.pa_c (pe_op op_add (pv 2) pe_int) pa_nil))))
        (pss_cons (ps_set (i := 6) sc__law_refused.nd rfl (Or.inl rfl) (Fx.pe_cal C__law_pick (hr.mono (by decide)) pass0 (Fx.pa_c (pv 0) (Fx.pa_c pe_int pa_nil))))
        (pss_cons (ps_if (pt_cmpR op_lt (pv 3) pe_int (nomark _)) (pss_one (ps_ret (pe_cmpR (op_eqD hr.units) (Fx.pe_calG C__law_call hG (hr.mono (by decide)) pass0 (Fx.pa_c (pv 1) (Fx.pa_c (pv 3) (Fx.pa_c (pv 4) (Fx.pa_c pe_int pa_nil))))) (pe_lst (Fx.pa_c pe_str (Fx.pa_c (Fx.pe_cB (Fx.call_reprK (K := K) rfl hG hr.units) T.b_repr (by decide +kernel) (Fx.pa_c (pv 4) pa_nil)) (Fx.pa_c pe_bl pa_nil)))) (nomark _)))) pss_nil)
        (pss_cons (ps_if (PW.pt (pw_and (pt_cmpR op_lt (pv 3) pe_int (nomark _)) (pw_and1 (pt_val (Fx.pe_cal C__law_one_in (hr.mono (by decide)) pass0 (Fx.pa_c (pv 0) (Fx.pa_c pe_int pa_nil))))))) (pss_one (ps_ret (pe_cmpR (op_eqD hr.units) (Fx.pe_calG C__law_call hG (hr.mono (by decide)) pass0 (Fx.pa_c (pv 1) (Fx.pa_c (pv 3) (Fx.pa_c (pv 5) (Fx.pa_c (pv 4) pa_nil))))) (pe_lst (Fx.pa_c pe_str (Fx.pa_c (Fx.pe_cB (Fx.call_reprK (K := K) rfl hG hr.units) T.b_repr (by decide +kernel) (Fx.pa_c (pv 4) pa_nil)) (Fx.pa_c pe_bl pa_nil)))) (nomark _)))) pss_nil)
        (pss_cons (ps_if (pt_cmpR op_lt (pv 3) pe_int (nomark _)) (pss_one (ps_ret (pe_cmpR (op_eqD hr.units) (Fx.pe_calG C__law_call hG (hr.mono (by decide)) pass0 (Fx.pa_c (pv 1) (Fx.pa_c (pv 3) (Fx.pa_c (pv 4) (Fx.pa_c (pv 5) pa_nil))))) (pe_lst (Fx.pa_c pe_str (Fx.pa_c (Fx.pe_cB (Fx.call_reprK (K := K) rfl hG hr.units) T.b_repr (by decide +kernel) (Fx.pa_c (pv 4) pa_nil)) (Fx.pa_c pe_bl pa_nil)))) (nomark _)))) pss_nil)
        (pss_cons (ps_if (pt_val (Fx.pe_cal C__law_one_in (hr.mono (by decide)) pass0 (Fx.pa_c (pv 0) (Fx.pa_c pe_int pa_nil)))) (pss_one (ps_ret (pe_cmpR (op_eqD hr.units) (Fx.pe_calG C__law_call hG (hr.mono (by decide)) pass0 (Fx.pa_c (pv 1) (Fx.pa_c (pv 3) (Fx.pa_c (pv 4) (Fx.pa_c (Fx.pe_cal C__law_choice (hr.mono (by decide)) pass0 (Fx.pa_c (pv 0) (Fx.pa_c (pe_lst (Fx.pa_c (pv 6) (Fx.pa_c pe_int (Fx.pa_c pe_non pa_nil)))) pa_nil))) pa_nil))))) (pe_lst (Fx.pa_c pe_str (Fx.pa_c (Fx.pe_cB (Fx.call_reprK (K := K) rfl hG hr.units) T.b_repr (by decide +kernel) (Fx.pa_c (pv 4) pa_nil)) (Fx.pa_c pe_bl pa_nil)))) (nomark _)))) pss_nil)
        (pss_cons (ps_set (i := 7) sc__law_refused.nd rfl (Or.inl rfl) (Fx.pe_cal C__law_choice (hr.mono (by decide)) pass0 (Fx.pa_c (pv 0) (Fx.pa_c (pe_lst (Fx.pa_c (pe_un un_neg pe_int) (Fx.pa_c pe_int (Fx.pa_c pe_int (Fx.pa_c (pe_op op_pow pe_int pe_int) (Fx.pa_c pe_bl (Fx.pa_c pe_bl (Fx.pa_c pe_non (Fx.pa_c pe_str (Fx.pa_c (pe_un un_neg pe_int) pa_nil)))))))))) pa_nil))))
        (pss_one (ps_ret (pe_cmpR (op_eqD hr.units) (Fx.pe_calG C__law_call hG (hr.mono (by decide)) pass0 (Fx.pa_c (pv 1) (Fx.pa_c (pv 3) (Fx.pa_c (pv 5) (Fx.pa_c (pv 7) pa_nil))))) (pe_lst (Fx.pa_c pe_str (Fx.pa_c (Fx.pe_cB (Fx.call_reprK (K := K) rfl hG hr.units) T.b_repr (by decide +kernel) (Fx.pa_c (pv 7) pa_nil)) (Fx.pa_c pe_bl pa_nil)))) (nomark _))))))))))))), ?_⟩
    obtain ⟨b, x, A, t, P, rfl, hB, L, G, nb, q⟩ := h
    have ok := G.ok
    have n60 := ok.n60
    refine seqI fun K1 k1 => ?_
    walk_at "rd"
    refine ⟨b, _, rfl, hB, by decide, by decide, fun way H1 w0 w1 kp1 => k1 _ _ ?_⟩
    clear k1
    have B1 := kp1.bag
    refine seqI fun K1 k1 => ?_
    walk_at "rd"
    refine ⟨b, _, rfl, B1, n60, fun bad d H2 kp2 hb sh => k1 _ _ ?_⟩
    clear k1
    have B2 := kp2.bag
    refine seqI fun K1 k1 => ?_
    walk_at "rd"
    refine ⟨b, _, rfl, B2, by omega, by omega, fun good H3 g0 g1 kp3 => k1 _ _ ?_⟩
    clear k1
    have B3 := kp3.bag
    refine seqI fun K1 k1 => ?_
    walk_at "rd"
    refine ⟨b, _, rfl, B3, by decide, by decide, fun mark H4 m0 m1 kp4 => k1 _ _ ?_⟩
    clear k1
    obtain ⟨good, rfl⟩ := ni_nat g0
    obtain ⟨mark, rfl⟩ := ni_nat m0
    have hb4 : BadN H4 bad 0 (t.n : Nat) := (hb.kp B2 kp3).kp B3 kp4
    have sh4 : Shw K H4 bad d := (sh.kp B2 kp3).kp B3 kp4
    have kp4 := kp1.trans (kp2.trans (kp3.trans kp4))
    have L4 := L.kp kp4 nb
    have B4 := kp4.bag
    clear kp1 B1 kp2 B2 kp3 B3 hb sh
    have ow : PyData.strOk "thing" = true := by decide +kernel
    refine seqI fun K1 k1 => ?_
    refine ifI fun A2 B2 ka kb => ?_
    walk_at "rd"
    refine ite_i (fun g => ka _ ?_) (fun g => kb _ (k1 _ _ ?_))
    · clear ka kb k1
      walk_at "rd"
      exact call_ok L4 G (.inl ⟨w0, g, rfl, rfl, hb4⟩) sh4 ow fun H' s => q H' (kp4.then s)
    clear ka kb k1
    refine seqI fun K1 k1 => ?_
    refine ifI fun A2 B2 ka kb => ?_
    walk_at "rd"
    have mid : ∀ H5, Kp b H4 H5 → K1 [some (.ref b), some (.ref x), some (.int (t.n : Nat)), some (.int way), some bad, some (.int (good : Nat)), some (.int (mark : Nat)), none] H5 → B2 H5 := fun H5 _ h => kb _ (by
      walk_at "rd"
      exact h)
    refine ite_i (fun g2 => ⟨b, _, rfl, B4, by decide, by decide, fun ch H5 kp5 => ⟨ch, rfl, ?_⟩⟩) (fun g2 => ?_)
    · have hb5 := hb4.kp B4 kp5
      have sh5 := sh4.kp B4 kp5
      have L5 := L4.kp kp5 nb
      have kp5' := kp4.trans kp5
      cases ch with
      | true =>
        rw [if_pos rfl]
        refine ka _ ?_
        clear ka kb k1
        walk_at "rd"
        exact call_ok L5 G (.inr (.inr (.inl ⟨by omega, g2, rfl, rfl, ⟨good, rfl, by omega⟩, hb5⟩))) sh5 ow fun H' s => q H' (kp5'.then s)
      | false =>
        rw [if_neg (by decide)]
        refine kb _ (k1 _ _ ?_)
        clear ka kb k1
        refine seqI fun K1 k1 => ?_
        refine ifI fun A2 B2 ka kb => ?_
        walk_at "rd"
        rw [if_pos g2]
        refine ka _ ?_
        clear ka kb k1
        walk_at "rd"
        exact call_ok L5 G (.inr (.inl ⟨by omega, g2, rfl, rfl, hb5⟩)) sh5 ow fun H' s => q H' (kp5'.then s)
    refine kb _ (k1 _ _ ?_)
    clear ka kb k1 mid
    refine seqI fun K1 k1 => ?_
    refine ifI fun A2 B2 ka kb => ?_
    walk_at "rd"
    rw [if_neg g2]
    refine kb _ (k1 _ _ ?_)
    clear ka kb k1
    refine seqI fun K1 k1 => ?_
    refine ifI fun A2 B2 ka kb => ?_
    walk_at "rd"
    refine ⟨b, _, rfl, B4, by decide, by decide, fun ch H5 kp5 => ⟨ch, rfl, ?_⟩⟩
    have hb5 := hb4.kp B4 kp5
    have sh5 := sh4.kp B4 kp5
    have L5 := L4.kp kp5 nb
    have kp5' := kp4.trans kp5
    have B5 := kp5.bag
    cases ch with
    | true =>
      rw [if_pos rfl]
      refine ka _ ?_
      clear ka kb k1
      walk_at "rd"
      refine ⟨by decide, fun lq nlq => ⟨b, lq, _, rfl, B5.same (same_new nlq), upd_same, (show 0 < 3 by decide), (show 3 ≤ 100000 by decide), fun w2 H6 _ kp6 => ?_⟩⟩
      have kp6' := (Kp.same B5 (same_new (o := .lst [.int (mark : Nat), .int 32, .non]) nlq)).trans kp6
      exact call_ok (L5.kp kp6' nb) G (.inr (.inr (.inr (.inl ⟨by omega, w1, rfl, rfl, hb5.kp B5 kp6'⟩)))) (sh5.kp B5 kp6') ow fun H' s => q H' ((kp5'.trans kp6').then s)
    | false =>
      rw [if_neg (by decide)]
      refine kb _ (k1 _ _ ?_)
      clear ka kb k1
      refine seqI fun K1 k1 => ?_
      walk_at "rd"
      refine ⟨⟨by decide, by decide, by decide⟩, by decide, fun lq nlq => ⟨b, lq, _, rfl, B5.same (same_new nlq), upd_same, (show 0 < 9 by decide), (show 9 ≤ 100000 by decide), fun w2 H6 hm kp6 => k1 _ _ ?_⟩⟩
      clear k1
      have kp6' := (Kp.same B5 (same_new (o := .lst [.int (-1), .int 32, .int 33, .int (10 ^ Int.toNat 39), .bl true, .bl false, .non, .str "0", .int (-32)]) nlq)).trans kp6
      have om : PyData.strOk "mark" = true := by decide +kernel
      have fin : ∀ d2, BadN H6 w2 0 31 → Shw K H6 w2 d2 → tRet (tOp (rEqD K) (tCall (spLCall K) [] E0 (tCons (tVar 1) (tCons (tVar 3) (tCons (tVar 5) (tCons (tVar 7) tNil))))) (tLst (tCons (tC (.str "mark")) (tCons (tCB (rRepr K) (tCons (tVar 7) tNil)) (tCons (tC (.bl true)) tNil))))) { nx := fun x H' => Q V.non H', rt := Q } [some (.ref b), some (.ref x), some (.int (t.n : Nat)), some (.int way), some bad, some (.int (good : Nat)), some (.int (mark : Nat)), some w2] H6 := fun d2 hb2 sh2 => by
        walk_at "rd"
        exact call_ok (L5.kp kp6' nb) G (.inr (.inr (.inr (.inr ⟨by omega, w1, rfl, rfl, ⟨good, rfl, by omega⟩, hb2⟩)))) sh2 om fun H' s => q H' ((kp5'.trans kp6').then s)
      simp only [List.mem_cons, List.not_mem_nil, or_false] at hm
      rcases hm with rfl | rfl | rfl | rfl | rfl | rfl | rfl | rfl | rfl
      · exact fin _ (.inr ⟨_, rfl, by omega⟩) (shw_int (by decide) (by decide))
      · exact fin _ (.inr ⟨_, rfl, by omega⟩) (shw_int (by decide) (by decide))
      · exact fin _ (.inr ⟨_, rfl, by omega⟩) (shw_int (by decide) (by decide))
      · exact fin _ (.inr ⟨_, rfl, big_no (by omega)⟩) shw_big
      · exact fin _ (.inl (.inl ⟨_, rfl⟩)) (shw_bl _)
      · exact fin _ (.inl (.inl ⟨_, rfl⟩)) (shw_bl _)
      · exact fin _ (.inl (.inr ⟨_, tyv_non, kb_none_int⟩)) shw_non
      · exact fin (.str "0") (.inl (.inr ⟨_, tyv_str, kb_str_int⟩)) ⟨.str _, by decide, rfl, by decide, by decide +kernel, by decide +kernel⟩
      · exact fin _ (.inr ⟨_, rfl, by omega⟩) (shw_int (by decide) (by decide))
end
section
variable {P : Program} {w : World} {K : PySem.W.Frag} {mg : Str → Option Value} {base : Heap}
theorem ok__law_deed (S : Src K mg "_law_deed" s__law_deed) (T : Tx P K mg) (C__law_pick : Cal P w K mg base CX0 1 "_law_pick" ["_law_bag_here", "_law_many"] spPick) (C__law_one_in : Cal P w K mg base CX0 2 "_law_one_in" ["_law_bag_here", "_law_many"] spOneIn) (C_Tree_MU_setitemU : CalM P w K mg base (L2.CX P w) 6 (He.ga K "Tree") "__setitem__" ["self", "thing", "holder"] (spMove K)) (C_Tree_M_move : CalM P w K mg base (L2.CX P w) 5 (He.ga K "Tree") "move" ["self", "thing", "holder"] (spMove K)) (C__law_moved : Cal P w K mg base CX0 2 "_law_moved" ["_law_model_here", "_law_thing", "_law_holder"] spMoved) (C__law_choice : Cal P w K mg base CX0 2 "_law_choice" ["_law_bag_here", "_law_things"] spChoiceL) (C_Tree_M_give : CalM P w K mg base (L2.CX P w) 5 (He.ga K "Tree") "give" ["self", "thing", "mark"] (spMarks K giveL)) (C__law_marked : Cal P w K mg base CX0 1 "_law_marked" ["_law_model_here", "_law_thing", "_law_mark", "_law_given"] spMarked) (C_Tree_M_strip : CalM P w K mg base (L2.CX P w) 5 (He.ga K "Tree") "strip" ["self", "thing", "mark"] (spMarks K fun _ => stripL)) (C__law_refused : CalG P w K mg base CX0 7 "_law_refused" ["_law_bag_here", "_law_tree", "_law_many"] (spLRef K))  : CalG P w K mg base CX0 8 "_law_deed" ["_law_bag_here", "_law_tree", "_law_model_here"] (spLDeed K) := by
  refine S.calG sc__law_deed bn__law_deed (fun vs H Q E h => ?_) (fun f cdv A outer s H vs Q E hG hr h => ?_)
  · first | (obtain ⟨rfl, _⟩ := h; rfl) | (obtain ⟨_, rfl, _⟩ := h; rfl) | (obtain ⟨_, _, rfl, _⟩ := h; rfl) | (obtain ⟨_, _, _, rfl, _⟩ := h; rfl) | (obtain ⟨_, _, _, _, rfl, _⟩ := h; rfl) | (obtain ⟨_, _, _, _, _, rfl, _⟩ := h; rfl) | (obtain ⟨_, _, _, _, _, _, rfl, _⟩ := h; rfl) | (obtain ⟨_, _, _, _, _, _, _, rfl, _⟩ := h; rfl) | (obtain ⟨_, _, _, _, _, _, _, _, rfl, _⟩ := h; rfl) | (obtain ⟨_, _, _, _, _, _, _, _, _, rfl, _⟩ := h; rfl) | (obtain ⟨_, _, _, _, _, _, _, _, _, _, rfl, _⟩ := h; rfl) | (obtain ⟨_, _, _, _, _, _, _, _, _, _, _, rfl, _⟩ := h; rfl) | (obtain ⟨_, _, _, _, _, _, _, _, _, _, _, _, rfl, _⟩ := h; rfl)
  · skip
    obtain ⟨f_Tree_MU_setitemU, fd_Tree_MU_setitemU, m_Tree_MU_setitemU, b_Tree_MU_setitemU, G_Tree_MU_setitemU⟩ := C_Tree_MU_setitemU.ex
    obtain ⟨f_Tree_M_move, fd_Tree_M_move, m_Tree_M_move, b_Tree_M_move, G_Tree_M_move⟩ := C_Tree_M_move.ex
    obtain ⟨f_Tree_M_give, fd_Tree_M_give, m_Tree_M_give, b_Tree_M_give, G_Tree_M_give⟩ := C_Tree_M_give.ex
    obtain ⟨f_Tree_M_strip, fd_Tree_M_strip, m_Tree_M_strip, b_Tree_M_strip, G_Tree_M_strip⟩ := C_Tree_M_strip.ex
    refine ⟨_, (pss_cons (ps_set (i := 3) sc__law_deed.nd rfl (Or.inl rfl) (pe_dget (hu_of hr) (pv 2) pe_str (fun _ _ => rfl)))
        (pss_cons (ps_set (i := 4) sc__law_deed.nd rfl (Or.inl rfl) (Fx.pe_cal C__law_pick (hr.mono (by decide)) pass0 (Fx.pa_c (pv 0) (Fx.pa_c (pe_op op_add (pv 3) pe_int) pa_nil))))
        (pss_cons (ps_set (i := 5) sc__law_deed.nd rfl (Or.inl rfl) (Fx.pe_cal C__law_pick (hr.mono (by decide)) pass0 (Fx.pa_c (pv 0) (Fx.pa_c pe_int pa_nil))))
        (pss_cons (ps_if (pt_cmpR op_lt (pv 5) pe_int (nomark _)) (pss_cons (ps_set (i := 6) sc__law_deed.nd rfl (Or.inl rfl) (Fx.pe_cal C__law_pick (hr.mono (by decide)) pass0 (Fx.pa_c (pv 0) (Fx.pa_c (pe_op op_add (pv 3) pe_int) pa_nil))))
        (pss_cons (ps_if (pt_val (Fx.pe_cal C__law_one_in (hr.mono (by decide)) pass0 (Fx.pa_c (pv 0) (Fx.pa_c pe_int pa_nil)))) (pss_one (ps_set (i := 6) sc__law_deed.nd rfl (Or.inl rfl) (pe_ix Fx.ix_L (pe_dget (hu_of hr) (pv 2) pe_str (fun _ _ => rfl)) (pv 4) (fun _ _ => rfl)))) pss_nil)
        (pss_cons (ps_if (pt_cmpR op_eq (pv 5) pe_int (nomark _)) (pss_one (ps_asg (pv 6) (pg_sub (pv 1) (pv 4) (Fx.set_O C_Tree_MU_setitemU T.ns_Tree (hr.mono (by decide)) Fx.passX)))) (pss_one (ps_expr (pe_meth (pv 1) T.cl_Tree m_Tree_M_move G_Tree_M_move (hr.mono (by decide)) b_Tree_M_move .nil Fx.passX (Fx.pa_c (pv 4) (Fx.pa_c (pv 6) pa_nil))))))
        (pss_cons (ps_expr (Fx.pe_cal C__law_moved (hr.mono (by decide)) pass0 (Fx.pa_c (pv 2) (Fx.pa_c (pv 4) (Fx.pa_c (pv 6) pa_nil)))))
        (pss_one (ps_ret pe_bl)))))) pss_nil)
        (pss_cons (ps_set (i := 7) sc__law_deed.nd rfl (Or.inl rfl) (Fx.pe_cal C__law_pick (hr.mono (by decide)) pass0 (Fx.pa_c (pv 0) (Fx.pa_c pe_int pa_nil))))
        (pss_cons (ps_if (PW.pt (pw_and (pt_cmpR (Fx.ne_LL hr.units) (pe_ix Fx.ix_L (pe_dget (hu_of hr) (pv 2) pe_str (fun _ _ => rfl)) (pv 4) (fun _ _ => rfl)) (pe_lst pa_nil) (nomark _)) (pw_and1 (pt_val (Fx.pe_cal C__law_one_in (hr.mono (by decide)) pass0 (Fx.pa_c (pv 0) (Fx.pa_c pe_int pa_nil))))))) (pss_one (ps_set (i := 7) sc__law_deed.nd rfl (Or.inl rfl) (Fx.pe_cal C__law_choice (hr.mono (by decide)) pass0 (Fx.pa_c (pv 0) (Fx.pa_c (pe_ix Fx.ix_L (pe_dget (hu_of hr) (pv 2) pe_str (fun _ _ => rfl)) (pv 4) (fun _ _ => rfl)) pa_nil))))) pss_nil)
        (pss_cons (ps_if (pt_cmpR op_eq (pv 5) pe_int (nomark _)) (pss_cons (ps_expr (pe_meth (pv 1) T.cl_Tree m_Tree_M_give G_Tree_M_give (hr.mono (by decide)) b_Tree_M_give .nil Fx.passX (Fx.pa_c (pv 4) (Fx.pa_c (pv 7) pa_nil))))
        (pss_cons (ps_expr (Fx.pe_cal C__law_marked (hr.mono (by decide)) pass0 (Fx.pa_c (pv 2) (Fx.pa_c (pv 4) (Fx.pa_c (pv 7) (Fx.pa_c pe_int pa_nil))))))
        (pss_one (ps_ret pe_bl)))) pss_nil)
        (pss_cons (ps_if (pt_cmpR op_eq (pv 5) pe_int (nomark _)) (pss_cons (ps_expr (pe_meth (pv 1) T.cl_Tree m_Tree_M_strip G_Tree_M_strip (hr.mono (by decide)) b_Tree_M_strip .nil Fx.passX (Fx.pa_c (pv 4) (Fx.pa_c (pv 7) pa_nil))))
        (pss_cons (ps_expr (Fx.pe_cal C__law_marked (hr.mono (by decide)) pass0 (Fx.pa_c (pv 2) (Fx.pa_c (pv 4) (Fx.pa_c (pv 7) (Fx.pa_c pe_int pa_nil))))))
        (pss_one (ps_ret pe_bl)))) pss_nil)
        (pss_one (ps_ret (Fx.pe_calG C__law_refused hG (hr.mono (by decide)) pass0 (Fx.pa_c (pv 0) (Fx.pa_c (pv 1) (Fx.pa_c (pv 3) pa_nil)))))))))))))), ?_⟩
    obtain ⟨b, c, x, d, A, C, t, P, rfl, hB, L, M, G, d1, d2, d3, q⟩ := h
    have ok := G.ok
    have F := G.fo
    have n60 := ok.n60
    have nb1 : b ∉ x :: A.own := d1 b List.mem_cons_self
    have nb2 : b ∉ d :: C.own := d2 b List.mem_cons_self
    have nc1 : c ∉ x :: A.own := d1 c (by simp)
    have nc2 : c ∉ d :: C.own := d2 c (by simp)
    refine seqI fun K1 k1 => ?_
    walk_at "rd"
    refine ⟨_, M.gMany, k1 _ _ ?_⟩
    clear k1
    rw [show (t.hol.length - 1 : Nat) = t.n from rfl]
    refine seqI fun K1 k1 => ?_
    walk_at "rd"
    refine ⟨b, _, rfl, ⟨c, hB⟩, by omega, by omega, fun i H1 i0 i1 kp1 => k1 _ _ ?_⟩
    clear k1
    obtain ⟨i, rfl⟩ := ni_nat i0
    have hi : i ≤ t.n := by omega
    refine seqI fun K1 k1 => ?_
    walk_at "rd"
    refine ⟨b, _, rfl, kp1.bag, by decide, by decide, fun way H2 w0 w1 kp2 => k1 _ _ ?_⟩
    clear k1
    have kp2 := kp1.trans kp2
    have B2 := kp2.bag
    clear kp1 i0 i1
    refine seqI fun K1 k1 => ?_
    refine ifI fun A2 B2' ka kb => ?_
    walk_at "rd"
    refine ite_i (fun g => ka _ ?_) (fun g => kb _ (k1 _ _ ?_))
    · clear ka kb k1
      refine seqI fun K1 k1 => ?_
      walk_at "rd"
      refine ⟨b, _, rfl, B2, by omega, by omega, fun h H3 h0 h1 kp3 => k1 _ _ ?_⟩
      clear k1
      obtain ⟨h, rfl⟩ := ni_nat h0
      have kp3 := kp2.trans kp3
      have B3 := kp3.bag
      refine seqI fun K1 k1 => ?_
      have go : ∀ (h : Nat) (H4 : Hp), h ≤ t.n → Kp b H H4 → K1 [some (.ref b), some (.ref x), some (.ref d), some (.int (t.n : Nat)), some (.int (i : Nat)), some (.int way), some (.int (h : Nat)), none] H4 := by
        clear B3 kp3 h0 h1 B2 kp2
        intro h H4 hh kp4
        refine k1 _ _ ?_
        clear k1
        have L4 := L.kp kp4 nb1
        have M4 := M.kp' kp4 nb2
        have C4 : BagC H4 b c := kp4.cel c hB
        obtain ⟨dx, hx⟩ := L4.ins
        refine seqI fun K1 k1 => ?_
        have sp : spMove K [.ref x, .int (i : Nat), .int (h : Nat)] H4 (fun _ H' => K1 [some (.ref b), some (.ref x), some (.ref d), some (.int (t.n : Nat)), some (.int (i : Nat)), some (.int way), some (.int (h : Nat)), none] H') E0 := by
          refine ⟨x, A, t, P, _, _, rfl, L4, ok, F, .inl ⟨i, h, rfl, rfl, hi, hh, fun st H5 s5 => k1 _ _ ?_, fun st T' H5 kf mv L5 => k1 _ _ ?_⟩⟩
          · clear k1
            refine seqI fun K1 k1 => ?_
            walk_at "rd"
            refine ⟨d, C, t, P, i, h, rfl, M4.same s5, ok, F, hi, hh, fun _ => k1 _ _ ?_, fun no => (by rw [st] at no; cases no)⟩
            clear k1
            walk_at "rd"
            have kp5 := kp4.then s5
            exact q t P C H5 ((kp_kf kp5).mono fun a h => .inl h) (kp5.cel c hB) (L.kp kp5 nb1) (M.kp' kp5 nb2) G rfl fun a h => .inl h
          · clear k1
            have M5 := M4.kf kf fun a ha z => d3 a (List.mem_cons_of_mem _ (fp_own z)) ha
            have C5 : BagC H5 b c := bagC_kf C4 kf (fun z => nb1 (List.mem_cons_of_mem _ (fp_own z))) (fun z => nc1 (List.mem_cons_of_mem _ (fp_own z)))
            refine seqI fun K1 k1 => ?_
            walk_at "rd"
            refine ⟨d, C, t, P, i, h, rfl, M5, ok, F, hi, hh, fun no => (by rw [st] at no; cases no), fun _ H6 k6 M6 => k1 _ _ ?_⟩
            clear k1
            walk_at "rd"
            have L6 := L5.kf k6 fun a ha z => d3 a ha (List.mem_cons_of_mem _ z)
            have C6 : BagC H6 b c := bagC_kf C5 k6 (fun z => nb2 (List.mem_cons_of_mem _ z)) (fun z => nc2 (List.mem_cons_of_mem _ z))
            have en : T'.n = t.n := by
              unfold Tr.n
              rw [mv.hol, List.length_set]
            refine q T' _ C H6 ((((kp_kf kp4).mono fun a h => .inl h).trans (kf.mono fun a h => .inr (.inl (fp_own h)))).trans (k6.mono fun a h => .inr (.inr h))) C6 L6 (by rw [mv.hol, mv.mks]; exact M6) ⟨mv.ok, mv.for_, by rw [mv.mks]; exact G.m0⟩ en fun a h => .inl h
        refine ifI fun A2 B2 ka kb => ?_
        walk_at "rd"
        refine ite_i (fun g4 => ka _ ?_) (fun g4 => kb _ ?_)
        · clear ka kb
          walk_at "rd"
          exact ⟨_, _, hx, sp⟩
        · clear ka kb
          walk_at "rd"
          exact ⟨_, _, hx, rfl, sp⟩
      clear k1
      refine ifI fun A2 B2 ka kb => ?_
      walk_at "rd"
      refine ⟨b, _, rfl, B3, by decide, by decide, fun ch H4 kp4 => ⟨ch, rfl, ?_⟩⟩
      have kp4 := kp3.trans kp4
      cases ch with
      | true =>
        rw [if_pos rfl]
        refine ka _ ?_
        clear ka kb
        walk_at "rd"
        have M4 := M.kp' kp4 nb2
        exact ⟨_, M4.gHol, _, rfl, _, M4.hl, _, ni_at (by rw [ok.lh]; omega), go _ _ (getD_le ok.vh) kp4⟩
      | false =>
        rw [if_neg (by decide)]
        refine kb _ ?_
        clear ka kb
        walk_at "rd"
        exact go _ _ (by omega) kp4
    clear ka kb k1
    refine seqI fun K1 k1 => ?_
    walk_at "rd"
    refine ⟨b, _, rfl, B2, by decide, by decide, fun m H3 m0 m1 kp3 => k1 _ _ ?_⟩
    clear k1
    obtain ⟨m, rfl⟩ := ni_nat m0
    have kp3 := kp2.trans kp3
    have B3 := kp3.bag
    have M3 := M.kp' kp3 nb2
    obtain ⟨ra, era, hma, hra⟩ := M3.mrk (i := i) (by rw [ok.lm]; omega)
    refine seqI fun K1 k1 => ?_
    refine ifI fun A2 B2' ka kb => ?_
    walk_at "rd"
    have mk32 : ∀ z ∈ t.mks.getD i [], z < 32 := fun z hz => by
      have hi2 : i < t.mks.length := by rw [ok.lm]; omega
      rw [List.getD_eq_getElem?_getD, List.getElem?_eq_getElem hi2] at hz
      exact (ok.vm _ (List.getElem_mem hi2)).2 z hz
    have go : ∀ (m : Nat) (H4 : Hp), m < 32 → Kp b H H4 → K1 [some (.ref b), some (.ref x), some (.ref d), some (.int (t.n : Nat)), some (.int (i : Nat)), some (.int way), none, some (.int (m : Nat))] H4 := by
      intro m H4 hm kp4
      refine k1 _ _ ?_
      clear k1
      have L4 := L.kp kp4 nb1
      have M4 := M.kp' kp4 nb2
      have C4 : BagC H4 b c := kp4.cel c hB
      obtain ⟨dx, hx⟩ := L4.ins
      refine seqI fun K1 k1 => ?_
      refine ifI fun A2 B2 ka kb => ?_
      walk_at "rd"
      refine ite_i (fun g5 => ka _ ?_) (fun g5 => kb _ (k1 _ _ ?_))
      · clear ka kb k1
        refine seqI fun K1 k1 => ?_
        walk_at "rd"
        refine ⟨_, _, hx, rfl, x, A, t, _, _, rfl, L4, ok, .inl ⟨i, m, rfl, rfl, hi, hm, fun H5 kf L5 ok5 => k1 _ _ ?_⟩⟩
        clear k1
        have M5 := M4.kf kf fun a ha z => d3 a (List.mem_cons_of_mem _ (fp_own z)) ha
        have C5 : BagC H5 b c := bagC_kf C4 kf (fun z => nb1 (List.mem_cons_of_mem _ (fp_own z))) (fun z => nc1 (List.mem_cons_of_mem _ (fp_own z)))
        refine seqI fun K1 k1 => ?_
        walk_at "rd"
        refine ⟨d, C, t, P, i, m, 1, rfl, M5, G, hi, hm, by decide, fun C' H6 k6 own M6 => k1 _ _ ?_⟩
        clear k1
        walk_at "rd"
        have L6 := L5.kf k6 fun a ha z => d3 a ha (List.mem_cons_of_mem _ z)
        have C6 : BagC H6 b c := bagC_kf C5 k6 (fun z => nb2 (List.mem_cons_of_mem _ z)) (fun z => nc2 (List.mem_cons_of_mem _ z))
        have e : setMarkL i m 1 (t.mks.getD i []) = giveL i m (t.mks.getD i []) := rfl
        rw [e] at M6
        refine q ⟨t.hol, t.bes, t.fir, _⟩ P C' H6 ((((kp_kf kp4).mono fun a h => .inl h).trans (kf.mono fun a h => .inr (.inl (fp_own h)))).trans (k6.mono fun a h => .inr (.inr h))) C6 L6 M6 ⟨ok5, ⟨F.len, F.mem, F.nd, F.ch, F.f0, F.b0, F.h0, F.rk⟩, ?_⟩ rfl fun a h => (own a h).imp id fun n => kp4.free (kf_free kf (fun z => L5.own_some (List.mem_cons_of_mem _ (fp_own z))) n)
        show (t.mks.set i _).getD 0 [] = []
        rw [getDL_set]
        split
        · rename_i e0
          rw [e0.1]
          exact (if_pos (.inl rfl)).trans G.m0
        · exact G.m0
      clear ka kb k1
      refine seqI fun K1 k1 => ?_
      refine ifI fun A2 B2 ka kb => ?_
      walk_at "rd"
      refine ite_i (fun g6 => ka _ ?_) (fun g6 => kb _ (k1 _ _ ?_))
      · clear ka kb k1
        refine seqI fun K1 k1 => ?_
        walk_at "rd"
        refine ⟨_, _, hx, rfl, x, A, t, _, _, rfl, L4, ok, .inl ⟨i, m, rfl, rfl, hi, hm, fun H5 kf L5 ok5 => k1 _ _ ?_⟩⟩
        clear k1
        have M5 := M4.kf kf fun a ha z => d3 a (List.mem_cons_of_mem _ (fp_own z)) ha
        have C5 : BagC H5 b c := bagC_kf C4 kf (fun z => nb1 (List.mem_cons_of_mem _ (fp_own z))) (fun z => nc1 (List.mem_cons_of_mem _ (fp_own z)))
        refine seqI fun K1 k1 => ?_
        walk_at "rd"
        refine ⟨d, C, t, P, i, m, 0, rfl, M5, G, hi, hm, by decide, fun C' H6 k6 own M6 => k1 _ _ ?_⟩
        clear k1
        walk_at "rd"
        have L6 := L5.kf k6 fun a ha z => d3 a ha (List.mem_cons_of_mem _ z)
        have C6 : BagC H6 b c := bagC_kf C5 k6 (fun z => nb2 (List.mem_cons_of_mem _ z)) (fun z => nc2 (List.mem_cons_of_mem _ z))
        have e : setMarkL i m 0 (t.mks.getD i []) = stripL m (t.mks.getD i []) := rfl
        rw [e] at M6
        refine q ⟨t.hol, t.bes, t.fir, _⟩ P C' H6 ((((kp_kf kp4).mono fun a h => .inl h).trans (kf.mono fun a h => .inr (.inl (fp_own h)))).trans (k6.mono fun a h => .inr (.inr h))) C6 L6 M6 ⟨ok5, ⟨F.len, F.mem, F.nd, F.ch, F.f0, F.b0, F.h0, F.rk⟩, ?_⟩ rfl fun a h => (own a h).imp id fun n => kp4.free (kf_free kf (fun z => L5.own_some (List.mem_cons_of_mem _ (fp_own z))) n)
        show (t.mks.set i _).getD 0 [] = []
        rw [getDL_set]
        split
        · rename_i e0
          rw [e0.1]
          rw [G.m0]
          rfl
        · exact G.m0
      clear ka kb k1
      walk_at "rd"
      exact ⟨b, x, A, t, P, rfl, kp4.bag, L4, G, nb1, fun H5 kp5 => q t P C H5 ((kp_kf (kp4.trans kp5)).mono fun a h => .inl h) ((kp4.trans kp5).cel c hB) (L.kp (kp4.trans kp5) nb1) (M.kp' (kp4.trans kp5) nb2) G rfl fun a h => .inl h⟩
    clear k1
    refine ⟨_, M3.gMrk, _, rfl, _, M3.mm, _, hma, Nat.zero_le _, fun q0 nq0 => ⟨_, rfl, _, same_new nq0 _ _ hra, allF_ni _, rfl, ?_⟩⟩
    have s4 := same_new (o := .lst []) nq0
    have kp4 := kp3.then s4
    have hra4 := s4 _ _ hra
    have M4 := M3.same s4
    generalize upd H3 q0 (.lst []) = H4 at s4 kp4 hra4 M4
    refine ite_i (fun e => kb _ ?_) (fun e => ⟨b, _, rfl, kp4.bag, by decide, by decide, fun ch H5 kp5 => ⟨ch, rfl, ?_⟩⟩)
    · clear ka kb
      walk_at "rd"
      exact go _ _ (by omega) kp4
    have kp5' := kp4.trans kp5
    have M5 := M.kp' kp5' nb2
    cases ch with
    | false =>
      rw [if_neg (by decide)]
      refine kb _ ?_
      clear ka kb
      walk_at "rd"
      exact go _ _ (by omega) kp5'
    | true =>
      rw [if_pos rfl]
      refine ka _ ?_
      clear ka kb
      obtain ⟨rb, erb, hmb, hrb⟩ := M5.mrk (i := i) (by rw [ok.lm]; omega)
      walk_at "rd"
      refine ⟨_, M5.gMrk, _, rfl, _, M5.mm, _, hmb, b, rb, _, rfl, kp5'.bag, hrb, ?_, ?_, fun v H6 hv kp6 => ?_⟩
      · have : srtN (t.mks.getD i []) ≠ [] := fun z => e (ni_nil.mpr z)
        rw [ni_len]
        exact List.length_pos_iff.mpr this
      · have hi2 : i < t.mks.length := by rw [ok.lm]; omega
        have l32 := nodup_lt (ok.vm _ (List.getElem_mem hi2)).1 (ok.vm _ (List.getElem_mem hi2)).2
        rw [ni_len, (srtN_perm _).length_eq, List.getD_eq_getElem?_getD, List.getElem?_eq_getElem hi2]
        exact Nat.le_trans l32 (by decide)
      · obtain ⟨z, hz, rfl⟩ := List.mem_map.mp hv
        exact go _ _ (mk32 z ((srtN_perm _).mem_iff.mp hz)) (kp5'.trans kp6)
end
section
variable {P : Program} {w : World} {K : PySem.W.Frag} {mg : Str → Option Value} {base : Heap}
theorem ok_law {f0 : Addr} {fd : FuncData} (F : FunD K "law" "law" (defArgs s_law) (defBody s_law) (defScope s_law) [] [] f0 fd) (T : Tx P K mg) (C__law_bag : Cal P w K mg base CX0 1 "_law_bag" ["_law_script"] (spBag K)) (C__law_pick : Cal P w K mg base CX0 1 "_law_pick" ["_law_bag_here", "_law_many"] spPick) (C__law_one_in : Cal P w K mg base CX0 2 "_law_one_in" ["_law_bag_here", "_law_many"] spOneIn) (C__law_pairs : Cal P w K mg base CX0 4 "_law_pairs" ["_law_bag_here", "_law_many"] spPairs) (C_Tree_MU_initU : CalI P w K mg base (L2.CX P w) 3 (He.ga K "Tree") ["self", "rows"] (spTree K)) (C__law_model : Cal P w K mg base CX0 2 "_law_model" ["_law_pairs_here"] spModel) (C__law_deed : CalG P w K mg base CX0 8 "_law_deed" ["_law_bag_here", "_law_tree", "_law_model_here"] (spLDeed K)) (C__law_same : CalG P w K mg base CX0 6 "_law_same" ["_law_bag_here", "_law_tree", "_law_model_here"] (spLSame K)) (C_Tree_MU_eqU : CalM P w K mg base CX0 2 (He.ga K "Tree") "__eq__" ["self", "other"] (spEqT K)) (C__law_told : Cal P w K mg base CX0 2 "_law_told" ["_law_model_here"] spLTold) (C_Tree_M_copy : CalM P w K mg base CX0 6 (He.ga K "Tree") "copy" ["self"] (spCopy K)) (C__law_twin : Cal P w K mg base CX0 1 "_law_twin" ["_law_model_here"] spTwin)  : FnG P w K mg base CX0 9 f0 fd ["_law_script"] (spLaw K) := by
  refine lawG F sc_law (fun vs H Q E h => ?_) (fun f cdv A outer s H vs Q E hG hr h => ?_)
  · first | (obtain ⟨rfl, _⟩ := h; rfl) | (obtain ⟨_, rfl, _⟩ := h; rfl) | (obtain ⟨_, _, rfl, _⟩ := h; rfl) | (obtain ⟨_, _, _, rfl, _⟩ := h; rfl) | (obtain ⟨_, _, _, _, rfl, _⟩ := h; rfl) | (obtain ⟨_, _, _, _, _, rfl, _⟩ := h; rfl) | (obtain ⟨_, _, _, _, _, _, rfl, _⟩ := h; rfl) | (obtain ⟨_, _, _, _, _, _, _, rfl, _⟩ := h; rfl) | (obtain ⟨_, _, _, _, _, _, _, _, rfl, _⟩ := h; rfl) | (obtain ⟨_, _, _, _, _, _, _, _, _, rfl, _⟩ := h; rfl) | (obtain ⟨_, _, _, _, _, _, _, _, _, _, rfl, _⟩ := h; rfl) | (obtain ⟨_, _, _, _, _, _, _, _, _, _, _, rfl, _⟩ := h; rfl) | (obtain ⟨_, _, _, _, _, _, _, _, _, _, _, _, rfl, _⟩ := h; rfl)
  · skip
    obtain ⟨f_Tree_MU_eqU, fd_Tree_MU_eqU, m_Tree_MU_eqU, b_Tree_MU_eqU, G_Tree_MU_eqU⟩ := C_Tree_MU_eqU.ex
    obtain ⟨f_Tree_M_copy, fd_Tree_M_copy, m_Tree_M_copy, b_Tree_M_copy, G_Tree_M_copy⟩ := C_Tree_M_copy.ex
    refine ⟨_, (pss_cons (ps_set (i := 1) sc_law.nd rfl (Or.inl rfl) (Fx.pe_cal C__law_bag (hr.mono (by decide)) pass0 (Fx.pa_c (pv 0) pa_nil)))
        (pss_cons (ps_set (i := 2) sc_law.nd rfl (Or.inl rfl) (pe_op op_add pe_int (Fx.pe_cal C__law_pick (hr.mono (by decide)) pass0 (Fx.pa_c (pv 1) (Fx.pa_c pe_int pa_nil)))))
        (pss_cons (ps_if (pt_val (Fx.pe_cal C__law_one_in (hr.mono (by decide)) pass0 (Fx.pa_c (pv 1) (Fx.pa_c pe_int pa_nil)))) (pss_one (ps_set (i := 2) sc_law.nd rfl (Or.inl rfl) (pe_op op_add pe_int (Fx.pe_cal C__law_pick (hr.mono (by decide)) pass0 (Fx.pa_c (pv 1) (Fx.pa_c pe_int pa_nil)))))) pss_nil)
        (pss_cons (ps_set (i := 3) sc_law.nd rfl (Or.inl rfl) (Fx.pe_cal C__law_pairs (hr.mono (by decide)) pass0 (Fx.pa_c (pv 1) (Fx.pa_c (pv 2) pa_nil))))
        (pss_cons (ps_set (i := 4) sc_law.nd rfl (Or.inl rfl) (Fx.pe_cTy Fx.list_L T.b_list (by decide +kernel) (Fx.pa_c (pv 3) pa_nil)))
        (pss_cons (ps_set (i := 5) sc_law.nd rfl (Or.inl rfl) (pe_lst (Fx.pa_c (Fx.pe_mk C_Tree_MU_initU (hr.mono (by decide)) T.g_Tree Fx.passX (Fx.pa_c (pv 4) pa_nil)) (Fx.pa_c (Fx.pe_mk C_Tree_MU_initU (hr.mono (by decide)) T.g_Tree Fx.passX (Fx.pa_c (Fx.pe_cTy Fx.tup_L T.b_tuple (by decide +kernel) (Fx.pa_c (pv 3) pa_nil)) pa_nil)) pa_nil))))
        (pss_cons (ps_set (i := 6) sc_law.nd rfl (Or.inl rfl) (pe_lst (Fx.pa_c (Fx.pe_cal C__law_model (hr.mono (by decide)) pass0 (Fx.pa_c (pv 3) pa_nil)) (Fx.pa_c (Fx.pe_cal C__law_model (hr.mono (by decide)) pass0 (Fx.pa_c (pv 3) pa_nil)) pa_nil))))
        (pss_cons (ps_asg (pe_tup (Fx.pa_c pe_int (Fx.pa_c (pe_tup (Fx.pa_c pe_int (Fx.pa_c pe_int pa_nil))) pa_nil))) (pg_sub (pv 4) pe_int set_list))
        (pss_cons (ps_expr (pe_bm PySem.F.plainAttrs_list PySem.F.slot_list_append PySem.F.type_list_append mt_append (pv 4) (Fx.pa_c (pe_tup (Fx.pa_c pe_int (Fx.pa_c (pe_tup pa_nil) pa_nil))) pa_nil)))
        (pss_cons (ps_for PassesOwn.never rfl (pi_range1 rfl T.b_range (Fx.pa_c (pe_op op_add pe_int (Fx.pe_cal C__law_pick (hr.mono (by decide)) pass0 (Fx.pa_c (pv 1) (Fx.pa_c pe_int pa_nil)))) pa_nil)) (pg_name (i := 7) sc_law.nd rfl (Or.inl rfl)) (pss_cons (ps_set (i := 8) sc_law.nd rfl (Or.inl rfl) (Fx.pe_cal C__law_pick (hr.mono (by decide)) pass0 (Fx.pa_c (pv 1) (Fx.pa_c pe_int pa_nil))))
        (pss_cons (ps_set (i := 9) sc_law.nd rfl (Or.inl rfl) (pe_ix Fx.ix_L (pv 5) (pv 8) (fun _ _ => rfl)))
        (pss_cons (ps_if (pt_not (pt_val (Fx.pe_calG C__law_deed hG (hr.mono (by decide)) pass0 (Fx.pa_c (pv 1) (Fx.pa_c (pv 9) (Fx.pa_c (pe_ix Fx.ix_L (pv 6) (pv 8) (fun _ _ => rfl)) pa_nil)))))) (pss_one (ps_ret pe_bl)) pss_nil)
        (pss_cons (ps_if (PW.pt (pw_or (pt_cmpR op_lt (pv 2) pe_int (nomark _)) (pw_or1 (pt_cmpR op_eq (pe_op op_mod (Fx.pe_cTy Fx.int_I T.b_int (by decide +kernel) (Fx.pa_c (pv 7) pa_nil)) pe_int) pe_int (nomark _))))) (pss_cons (ps_if (pt_not (pt_val (Fx.pe_calG C__law_same hG (hr.mono (by decide)) pass0 (Fx.pa_c (pv 1) (Fx.pa_c (pv 9) (Fx.pa_c (pe_ix Fx.ix_L (pv 6) (pv 8) (fun _ _ => rfl)) pa_nil)))))) (pss_one (ps_ret pe_bl)) pss_nil)
        (pss_one (ps_if (pt_cmpR op_ne (pe_cmpR (Fx.op_eqOwn C_Tree_MU_eqU (hr.mono (by decide)) pass0) (pe_ix Fx.ix_L (pv 5) pe_int (fun _ _ => rfl)) (pe_ix Fx.ix_L (pv 5) pe_int (fun _ _ => rfl)) (nomark _)) (pe_cmpR (op_eqD hr.units) (Fx.pe_cal C__law_told (hr.mono (by decide)) pass0 (Fx.pa_c (pe_ix Fx.ix_L (pv 6) pe_int (fun _ _ => rfl)) pa_nil)) (Fx.pe_cal C__law_told (hr.mono (by decide)) pass0 (Fx.pa_c (pe_ix Fx.ix_L (pv 6) pe_int (fun _ _ => rfl)) pa_nil)) (nomark _)) (nomark _)) (pss_one (ps_ret pe_bl)) pss_nil))) pss_nil)
        (pss_one (ps_if (pt_val (Fx.pe_cal C__law_one_in (hr.mono (by decide)) pass0 (Fx.pa_c (pv 1) (Fx.pa_c pe_int pa_nil)))) (pss_cons (ps_asg (pe_meth0 (pv 9) T.cl_Tree m_Tree_M_copy G_Tree_M_copy (hr.mono (by decide)) b_Tree_M_copy .nil pass0) (pg_sub (pv 5) (pe_op op_sub pe_int (pv 8)) set_list))
        (pss_one (ps_asg (Fx.pe_cal C__law_twin (hr.mono (by decide)) pass0 (Fx.pa_c (pe_ix Fx.ix_L (pv 6) (pv 8) (fun _ _ => rfl)) pa_nil)) (pg_sub (pv 6) (pe_op op_sub pe_int (pv 8)) set_list)))) pss_nil)))))))
        (pss_one (ps_ret (pe_and (Fx.pe_calG C__law_same hG (hr.mono (by decide)) pass0 (Fx.pa_c (pv 1) (Fx.pa_c (pe_ix Fx.ix_L (pv 5) pe_int (fun _ _ => rfl)) (Fx.pa_c (pe_ix Fx.ix_L (pv 6) pe_int (fun _ _ => rfl)) pa_nil)))) (pe_one (Fx.pe_calG C__law_same hG (hr.mono (by decide)) pass0 (Fx.pa_c (pv 1) (Fx.pa_c (pe_ix Fx.ix_L (pv 5) pe_int (fun _ _ => rfl)) (Fx.pa_c (pe_ix Fx.ix_L (pv 6) pe_int (fun _ _ => rfl)) pa_nil)))))))))))))))))), ?_⟩
    obtain ⟨a, ns, rfl, hS, hlen, q⟩ := h
    refine seqI fun K1 k1 => ?_
    walk_at "rd"
    refine ⟨a, ns, rfl, hS, hlen, fun b H1 s1 n1 B1 => k1 _ _ ?_⟩
    clear k1 s1 n1
    refine seqI fun K1 k1 => ?_
    walk_at "rd"
    refine ⟨b, _, rfl, B1, by decide, by decide, fun m H2 m0 m1 kp2 => ⟨m, rfl, k1 _ _ ?_⟩⟩
    clear k1
    have B2 := kp2.bag
    obtain ⟨m, rfl⟩ := ni_nat m0
    clear kp2 B1
    refine seqI fun K1 k1 => ?_
    have go : ∀ (n : Nat) (H3 : Hp), 1 ≤ n → n ≤ 60 → Bag H3 b → K1 [some (.ref a), some (.ref b), some (.int (n : Nat)), none, none, none, none, none, none, none] H3 := by
      clear B2 m0 m1
      intro n H3 n1 n60 B3
      refine k1 _ _ ?_
      clear k1
      refine seqI fun K1 k1 => ?_
      walk_at "rd"
      refine ⟨b, n, rfl, B3, n1, n60, fun pq as rs H4 kp4 npq PA R l3 => k1 _ _ ?_⟩
      clear k1
      have B4 := kp4.bag
      clear kp4 B3 npq
      refine seqI fun K1 k1 => ?_
      walk_at "rd"
      refine ⟨_, PA.h, fun gq ngq => k1 _ _ ?_⟩
      clear k1
      have s5 := same_new (o := .lst (as.map V.ref)) ngq
      have hg5 : (upd H4 gq (.lst (as.map V.ref))) gq = some (.lst (as.map V.ref)) := upd_same
      have PA5 : PairsAt (upd H4 gq (.lst (as.map V.ref))) pq as rs := ⟨s5 _ _ PA.h, PA.la, fun j a r e1 e2 => by
        obtain ⟨mm, g1, g2⟩ := PA.row j a r e1 e2
        exact ⟨mm, s5 _ _ g1, s5 _ _ g2⟩⟩
      obtain ⟨c, C4⟩ : ∃ c, BagC H4 b c := B4
      have C5 := C4.same s5
      have cg : c ≠ gq := fun e => by
        obtain ⟨_, _, _, _, _, _, g2, _⟩ := C4
        rw [e, ngq] at g2
        cases g2
      generalize upd H4 gq (.lst (as.map V.ref)) = H5 at s5 hg5 PA5 C5
      clear s5 C4 PA ngq
      refine seqI fun K1 k1 => ?_
      walk_at "rd"
      intro x0 dx0 nx0 ndx0 ne0
      have sA := same_new (o := .own x0) ndx0
      have nx0' : (upd H5 dx0 (.own x0)) x0 = none := by rw [upd_ne (Ne.symm ne0)]; exact nx0
      have s6 := sA.trans (same_new (o := .ins (He.ga K "Tree") dx0 []) nx0')
      have hx6 : (upd (upd H5 dx0 (.own x0)) x0 (.ins (He.ga K "Tree") dx0 [])) x0 = some (.ins (He.ga K "Tree") dx0 []) := upd_same
      show spTree K _ (upd (upd H5 dx0 (.own x0)) x0 (.ins (He.ga K "Tree") dx0 [])) _ _
      generalize upd (upd H5 dx0 (.own x0)) x0 (.ins (He.ga K "Tree") dx0 []) = H6 at s6 hx6
      refine ⟨x0, gq, dx0, as, rs, n, rfl, hx6, .inl (s6 _ _ hg5), PA5.la, (PA5.same s6).row, R, fun A0 T0 H7 kx fr0 L0 ok0 eh0 em0 F0 => ⟨rfl, ?_⟩⟩
      have s57 := kx_same s6 kx nx0
      have fx0 : ∀ a ∈ x0 :: A0.own, H5 a = none := fun a ha => by
        rcases List.mem_cons.mp ha with rfl | ha
        · exact nx0
        · exact s6.free (fr0 a ha)
      clear kx fr0 hx6 s6 nx0' sA ne0 ndx0
      have eb : ∀ a ∈ [b, c], ∃ o, H5 a = some o := fun a ha => by
        obtain ⟨ns, a1, r1, m1, k1, g1, g2, g3⟩ := C5
        simp only [List.mem_cons, List.not_mem_nil, or_false] at ha
        rcases ha with rfl | rfl
        · exact ⟨_, g1⟩
        · exact ⟨_, g2⟩
      have bx0 := dis_of eb fx0
      have ex0 : ∀ a ∈ x0 :: A0.own, ∃ o, H7 a = some o := fun a ha => L0.own_some ha
      have eb := some_same eb s57
      refine ⟨_, (PA5.same s57).h, fun lq nlq => ?_⟩
      intro x1 dx1 nx1 ndx1 ne1
      have sl := same_new (o := .tup (as.map V.ref)) nlq
      have hl : (upd H7 lq (.tup (as.map V.ref))) lq = some (.tup (as.map V.ref)) := upd_same
      generalize upd H7 lq (.tup (as.map V.ref)) = H7b at sl hl nx1 ndx1
      have sA := same_new (o := .own x1) ndx1
      have nx1' : (upd H7b dx1 (.own x1)) x1 = none := by rw [upd_ne (Ne.symm ne1)]; exact nx1
      have s8 := sA.trans (same_new (o := .ins (He.ga K "Tree") dx1 []) nx1')
      have hx8 : (upd (upd H7b dx1 (.own x1)) x1 (.ins (He.ga K "Tree") dx1 [])) x1 = some (.ins (He.ga K "Tree") dx1 []) := upd_same
      show spTree K _ (upd (upd H7b dx1 (.own x1)) x1 (.ins (He.ga K "Tree") dx1 [])) _ _
      generalize upd (upd H7b dx1 (.own x1)) x1 (.ins (He.ga K "Tree") dx1 []) = H8 at s8 hx8
      refine ⟨x1, lq, dx1, as, rs, n, rfl, hx8, .inr (s8 _ _ hl), PA5.la, ((PA5.same s57).same (sl.trans s8)).row, R, fun A1 T1 H9 kx fr1 L1 ok1 eh1 em1 F1 => ⟨rfl, by decide, fun tl ntl => k1 _ _ ?_⟩⟩
      clear k1
      have s7b9 := kx_same s8 kx nx1
      have s79 := sl.trans s7b9
      have fx1 : ∀ a ∈ x1 :: A1.own, H7 a = none := fun a ha => by
        rcases List.mem_cons.mp ha with rfl | ha
        · exact sl.free nx1
        · exact sl.free (s8.free (fr1 a ha))
      have L0 := L0.same s79
      have bx1 := dis_of eb fx1
      have xx := dis_of ex0 fx1
      have ex1 : ∀ a ∈ x1 :: A1.own, ∃ o, H9 a = some o := fun a ha => L1.own_some ha
      have eb := some_same eb s79
      have ex0 := some_same ex0 s79
      clear kx fr1 hx8 s8 nx1' sA ne1 ndx1 s7b9 sl hl nlq
      have st := same_new (o := .lst [.ref x0, .ref x1]) ntl
      have htl : (upd H9 tl (.lst [.ref x0, .ref x1])) tl = some (.lst [.ref x0, .ref x1]) := upd_same
      have ntl5 := (s57.trans s79).free ntl
      have tn0 : tl ∉ x0 :: A0.own := fun z => by
        obtain ⟨o, e⟩ := L0.own_some z
        rw [ntl] at e
        cases e
      have tn1 : tl ∉ x1 :: A1.own := fun z => by
        obtain ⟨o, e⟩ := L1.own_some z
        rw [ntl] at e
        cases e
      generalize upd H9 tl (.lst [.ref x0, .ref x1]) = H10 at st htl
      have s510 := (s57.trans s79).trans st
      have s710 := s79.trans st
      have L0 := L0.same st
      have L1 := L1.same st
      have eb := some_same eb st
      have ex0 := some_same ex0 st
      have ex1 := some_same ex1 st
      clear s79 st ntl
      refine seqI fun K1 k1 => ?_
      walk_at "rd"
      have PA10 := PA5.same s510
      refine ⟨pq, as, rs, n, rfl, PA10, R, fun d0 C0 H11 s11 fd0 M0 => ⟨pq, as, rs, n, rfl, PA10.same s11, R, fun d1 C1 H12 s12 fd1 M1 => ⟨by decide, fun ml nml => k1 _ _ ?_⟩⟩⟩
      clear k1
      have bd0 := dis_of eb fd0
      have x00 := dis_of ex0 fd0
      have x10 := dis_of ex1 fd0
      have tl0 : tl ∉ d0 :: C0.own := fun z => by
        rw [fd0 tl z] at htl
        cases htl
      have htl11 := s11 _ _ htl
      have bd1 := dis_of (some_same eb s11) fd1
      have x01 := dis_of (some_same ex0 s11) fd1
      have x11 := dis_of (some_same ex1 s11) fd1
      have dd := dis_of M0.own_some fd1
      have tl1 : tl ∉ d1 :: C1.own := fun z => by
        rw [fd1 tl z] at htl11
        cases htl11
      have M0 := M0.same s12
      have s1012 := s11.trans s12
      have L0 := L0.same s1012
      have L1 := L1.same s1012
      have htl := s1012 _ _ htl
      have s512 := s510.trans s1012
      have hg12 := s512 _ _ hg5
      have C12 := C5.same s512
      have mno : ∀ {l : List Addr}, (∀ a ∈ l, ∃ o, H12 a = some o) → ml ∉ l := fun h z => by
        obtain ⟨o, e⟩ := h ml z
        rw [nml] at e
        cases e
      have s13 := same_new (o := .lst [.ref d0, .ref d1]) nml
      have hml : (upd H12 ml (.lst [.ref d0, .ref d1])) ml = some (.lst [.ref d0, .ref d1]) := upd_same
      have ecb : ∀ a ∈ [b, c], ∃ o, H12 a = some o := some_same (some_same eb s11) s12
      have n1_ : tl ≠ ml := fun e => by
        rw [← e, htl] at nml
        cases nml
      have n2_ : c ≠ tl := fun e => by
        obtain ⟨_, _, _, _, _, _, g2, _⟩ := C5
        rw [e, ntl5] at g2
        cases g2
      have n3_ : c ≠ ml := fun e => by
        obtain ⟨_, _, _, _, _, _, g2, _⟩ := C12
        rw [e, nml] at g2
        cases g2
      have W := mk_wd (n := n) (C12.same s13) (s13 _ _ htl) hml (L0.same s13) (L1.same s13) (P := rows0 rs n) (by rw [eh0, em0]; exact M0.same s13) (by rw [eh1, em1]; exact M1.same s13) ⟨ok0, F0, by rw [em0]; rfl⟩ ⟨ok1, F1, by rw [em1]; rfl⟩ (by unfold Tr.n; rw [eh0, List.length_cons, List.length_map, R.len]; omega) (by unfold Tr.n; rw [eh1, List.length_cons, List.length_map, R.len]; omega) ⟨n1_, n2_, n3_⟩ (dis4 bx0 tn0 (mno fun a ha => L0.own_some ha)) (dis4 bx1 tn1 (mno fun a ha => L1.own_some ha)) (dis4 bd0 tl0 (mno M0.own_some)) (dis4 bd1 tl1 (mno M1.own_some)) xx dd x00 x01 x10 x11
      have g0 : ∀ a ∈ [b, c, tl, ml], a ≠ gq := fun a ha e => by
        simp only [List.mem_cons, List.not_mem_nil, or_false] at ha
        rcases ha with h | h | h | h
        · obtain ⟨_, _, _, _, _, g1, _⟩ := C5
          rw [← h, e, hg5] at g1
          cases g1
        · exact cg (by rw [← h, e])
        · rw [← h, e, hg5] at ntl5
          cases ntl5
        · rw [← h, e, hg12] at nml
          cases nml
      have gx : ∀ u, ∀ a ∈ cond u x1 x0 :: (cond u A1 A0).own, a ≠ gq := fun u a ha e => by
        cases u
        · have := fx0 a ha
          rw [e, hg5] at this
          cases this
        · have := s57.free (fx1 a ha)
          rw [e, hg5] at this
          cases this
      have gd : ∀ u, ∀ a ∈ cond u d1 d0 :: (cond u C1 C0).own, a ≠ gq := fun u a ha e => by
        cases u
        · have := s510.free (fd0 a ha)
          rw [e, hg5] at this
          cases this
        · have := s510.free (s11.free (fd1 a ha))
          rw [e, hg5] at this
          cases this
      have hg13 := s13 _ _ hg12
      show tSeq _ _ _ _ (upd H12 ml (.lst [.ref d0, .ref d1]))
      generalize upd H12 ml (.lst [.ref d0, .ref d1]) = H13 at W hg13
      have Wg : ∀ {Hx Hy : Hp}, Wd K Hx b c tl ml n (fun u => cond u x1 x0) (fun u => cond u A1 A0) (fun u => cond u T1 T0) (fun _ => rows0 rs n) (fun u => cond u d1 d0) (fun u => cond u C1 C0) → Kf (fun a => a = gq) Hx Hy → Wd K Hy b c tl ml n (fun u => cond u x1 x0) (fun u => cond u A1 A0) (fun u => cond u T1 T0) (fun _ => rows0 rs n) (fun u => cond u d1 d0) (fun u => cond u C1 C0) := fun W k => W.kf k g0 gx gd
      clear g0 gx gd bx0 bx1 xx ex0 ex1 eb bd0 x00 x10 tl0 tn0 tn1 htl11 bd1 x01 x11 dd tl1 M0 M1 s1012 L0 L1 htl s512 hg12 C12 mno s13 hml ecb n1_ n2_ n3_ nml fd0 fd1 s11 s12 PA10 s510 s710 ntl5 fx1 fx0 s57
      refine seqI fun K1 k1 => ?_
      walk_at "rd"
      refine ⟨by decide, fun t1 nt1 => ⟨by decide, fun t2 nt2 => ?_⟩⟩
      have s14 := (same_new (o := .tup [.int 31, .int 30]) nt1).trans (same_new (o := .tup [.int 0, .ref t1]) nt2)
      generalize upd (upd H13 t1 (.tup [.int 31, .int 30])) t2 (.tup [.int 0, .ref t1]) = H14 at s14
      have las : as.length = n := by rw [PA5.la, R.len]
      refine ⟨_, s14 _ _ hg13, 0, ixN_nat (i := 0) (by rw [List.length_map]; omega), k1 _ _ ?_⟩
      clear k1
      have W15 := Wg (W.same s14) (Kf.upd (F := fun a => a = gq) (D := gq) Kf.refl rfl (.lst ((as.map V.ref).set 0 (.ref t2))))
      have hg15 : (upd H14 gq (.lst ((as.map V.ref).set 0 (.ref t2)))) gq = some (.lst ((as.map V.ref).set 0 (.ref t2))) := upd_same
      generalize upd H14 gq (.lst ((as.map V.ref).set 0 (.ref t2))) = H15 at W15 hg15
      clear W s14 hg13 nt1 nt2 H14 H13
      refine seqI fun K1 k1 => ?_
      walk_at "rd"
      refine ⟨tyL hg15, ?_⟩
      refine ⟨Nat.zero_le _, fun t3 nt3 => ⟨by decide, fun t4 nt4 => ?_⟩⟩
      have s16 := (same_new (o := .tup []) nt3).trans (same_new (o := .tup [.int 1, .ref t3]) nt4)
      generalize upd (upd H15 t3 (.tup [])) t4 (.tup [.int 1, .ref t3]) = H16 at s16
      refine ⟨_, s16 _ _ hg15, by rw [List.length_set, List.length_map]; exact Nat.lt_of_lt_of_le (by omega : _ < 100) (by decide), k1 _ _ ?_⟩
      clear k1
      have W17 := Wg (W15.same s16) (Kf.upd (F := fun a => a = gq) (D := gq) Kf.refl rfl (.lst ((as.map V.ref).set 0 (.ref t2) ++ [.ref t4])))
      generalize upd H16 gq (.lst ((as.map V.ref).set 0 (.ref t2) ++ [.ref t4])) = H17 at W17
      clear W15 s16 hg15 nt3 nt4 H15 H16 Wg hg5 PA5 R l3 cg C5
      refine seqI fun K0 k0 => ?_
      refine forI fun R0 hR => ?_
      walk_at "rd"
      refine ⟨b, 24, rfl, ⟨c, W17.bag⟩, by decide, by decide, fun g H18 g0 g1 kp18 => ?_⟩
      walk_at "rd"
      refine ⟨by omega, by omega, hR _ _ ?_⟩
      clear hR
      have W18 := W17.kp kp18
      clear W17 kp18
      refine for_range (lo := 0) (n := (6 + g).toNat) (fun i σ H' => ∃ (v7 v8 v9 : Option V) (x : Bool → Addr) (A : Bool → TrO) (T : Bool → Tr) (P : Bool → List (List Nat)) (d : Bool → Addr) (C : Bool → Mo), σ = [some (.ref a), some (.ref b), some (.int (n : Nat)), some (.ref pq), some (.ref gq), some (.ref tl), some (.ref ml), v7, v8, v9] ∧ Wd K H' b c tl ml n x A T P d C) ⟨none, none, none, _, _, _, _, _, _, rfl, W18⟩ ?_ ?_
      · clear W18
        rintro i σ H1 hi ⟨v7, v8, v9, x, A, t, P, d, C, rfl, W⟩
        refine seqI fun K1 k1 => ?_
        walk_at "rd"
        refine ⟨b, 2, rfl, ⟨c, W.bag⟩, by decide, by decide, fun g2 H2 g3 g4 kp2 => k1 _ _ ?_⟩
        clear k1
        obtain ⟨u, rfl⟩ : ∃ u : Bool, g2 = cond u 1 0 := by
          rcases (by omega : g2 = 0 ∨ g2 = 1) with rfl | rfl
          · exact ⟨false, rfl⟩
          · exact ⟨true, rfl⟩
        have W := W.kp kp2
        clear kp2 g3 g4
        have au : ∀ f : Bool → Addr, atI [V.ref (f false), V.ref (f true)] (cond u 1 0 : Int) = some (.ref (f u)) := fun f => by cases u <;> rfl
        refine seqI fun K1 k1 => ?_
        walk_at "rd"
        refine ⟨_, W.htl, _, au x, k1 _ _ ?_⟩
        clear k1
        refine seqI fun K1 k1 => ?_
        refine ifI fun A2 B2 ka kb => ?_
        walk_at "rd"
        refine ⟨_, W.hml, _, au d, b, c, x u, d u, A u, C u, t u, P u, rfl, W.bag, W.tr u, W.mo u, W.gd u, fun z hz => W.s1 u z (by simp only [List.mem_cons, List.not_mem_nil, or_false] at hz ⊢; rcases hz with h | h <;> simp [h]), fun z hz => W.s2 u z (by simp only [List.mem_cons, List.not_mem_nil, or_false] at hz ⊢; rcases hz with h | h <;> simp [h]), W.s3 u u, fun T' P' C' H3 kf hB L M G en own => ⟨_, rfl, ?_⟩⟩
        rw [if_neg (by decide)]
        refine kb _ (k1 _ _ ?_)
        clear ka kb k1
        obtain ⟨t, P, C, W⟩ : ∃ T2 P2 C2, Wd K H3 b c tl ml n x A T2 P2 d C2 := ⟨_, _, _, W.deed u kf hB L M G en own⟩
        clear kf hB L M G en own
        have nb1 : b ∉ x u :: (A u).own := W.s1 u b (by simp)
        have nb2 : b ∉ d u :: (C u).own := W.s2 u b (by simp)
        refine seqI fun K1 k1 => ?_
        have go2 : ∀ H4, Wd K H4 b c tl ml n x A t P d C → K1 [some (.ref a), some (.ref b), some (.int (n : Nat)), some (.ref pq), some (.ref gq), some (.ref tl), some (.ref ml), some (.int (0 + (i : Nat))), some (.int (cond u 1 0)), some (.ref (x u))] H4 := by
          clear W
          intro H4 W
          refine k1 _ _ ?_
          clear k1
          refine ifI fun A2 B2 ka kb => ?_
          walk_at "rd"
          refine ⟨b, 7, rfl, ⟨c, W.bag⟩, by decide, by decide, fun ch H5 kp5 => ⟨ch, rfl, ?_⟩⟩
          have W := W.kp kp5
          clear kp5
          cases ch with
          | false =>
            rw [if_neg (by decide)]
            refine kb _ ?_
            clear ka kb
            walk_at "rd"
            exact ⟨_, _, _, _, _, _, W⟩
          | true =>
          rw [if_pos rfl]
          refine ka _ ?_
          clear ka kb
          obtain ⟨dx, hx⟩ := (W.tr u).ins
          refine seqI fun K1 k1 => ?_
          walk_at "rd"
          refine ⟨_, _, hx, rfl, x u, A u, t u, P u, rfl, W.tr u, (W.gd u).ok, (W.gd u).fo, (W.gd u).m0, fun y B H6 s6 fr6 L6 => ?_⟩
          refine ⟨_, s6 _ _ W.htl, cond u 0 1, by cases u <;> rfl, k1 _ _ ?_⟩
          clear k1
          rw [show [V.ref (x false), V.ref (x true)].set (cond u 0 1) (.ref y) = [.ref (if false = u then x false else y), .ref (if true = u then x true else y)] by cases u <;> rfl]
          have hml8 : (upd H6 tl (.lst [.ref (if false = u then x false else y), .ref (if true = u then x true else y)])) ml = some (.lst [.ref (d false), .ref (d true)]) := by
            rw [upd_ne (Ne.symm W.s0.1)]
            exact s6 _ _ W.hml
          have M8 : ModAt (upd H6 tl (.lst [.ref (if false = u then x false else y), .ref (if true = u then x true else y)])) (d u) (C u) (t u).hol (P u) (t u).mks := (W.mo u).kf (F := fun a => a = tl) (Kf.upd (F := fun a => a = tl) (D := tl) (.of s6) rfl _) fun a ha e => W.s2 u tl (by simp) (by rw [← e]; exact ha)
          have g := W.gd u
          have n60 := g.ok.n60
          walk_at "rd"
          refine ⟨_, hml8, _, au d, d u, C u, (t u).hol, P u, (t u).mks, rfl, M8, by rw [g.fo.len]; omega, by rw [g.ok.lm]; omega, fun d' C' H7 s7 fr7 M7 => ⟨_, s7 _ _ hml8, cond u 0 1, by cases u <;> rfl, ?_⟩⟩
          rw [show [V.ref (d false), V.ref (d true)].set (cond u 0 1) (.ref d') = [.ref (if false = u then d false else d'), .ref (if true = u then d true else d')] by cases u <;> rfl]
          exact ⟨_, _, _, _, _, _, W.copy u s6 fr6 L6 s7 fr7 M7⟩
        clear k1
        refine ifI fun A2 B2 ka kb => ?_
        walk_at "rd"
        have bod : A2 H3 := by
          refine ka _ ?_
          clear ka kb
          refine seqI fun K1 k1 => ?_
          refine ifI fun A2 B2 ka kb => ?_
          walk_at "rd"
          refine ⟨_, W.hml, _, au d, b, x u, d u, A u, C u, t u, P u, rfl, ⟨c, W.bag⟩, W.tr u, W.mo u, W.gd u, nb1, nb2, fun H4 kp4 => ⟨_, rfl, ?_⟩⟩
          rw [if_neg (by decide)]
          refine kb _ (k1 _ _ ?_)
          clear ka kb k1
          have W := W.kp kp4
          refine ifI fun A2 B2 ka kb => ?_
          walk_at "rd"
          obtain ⟨dx0, hx0⟩ := (W.tr false).ins
          obtain ⟨dx1, hx1⟩ := (W.tr true).ins
          refine ⟨_, W.htl, .ref (x false), rfl, _, W.htl, .ref (x true), rfl, _, rfl, _, rfl, _, _, _, hx0, _, hx1, x false, x true, A false, A true, t false, t true, rfl, W.tr _, W.tr _, (W.gd _).ok, (W.gd _).ok, fun H5 s5 => ?_⟩
          have W := W.same s5
          refine ⟨_, rfl, _, W.hml, .ref (d false), rfl, d false, C false, t false, P false, rfl, W.mo _, W.gd _, fun p6 H6 s6 np6 td6 => ?_⟩
          have W := W.same s6
          refine ⟨_, W.hml, .ref (d true), rfl, d true, C true, t true, P true, rfl, W.mo _, W.gd _, fun p7 H7 s7 np7 td7 => ?_⟩
          have W := W.same s7
          refine ⟨_, _, (td6.same s7).dp, td7.dp, lay_told _, lay_told _, ?_⟩
          rw [eqv_told]
          refine ⟨rfl, ?_⟩
          rw [if_pos rfl]
          refine kb _ ?_
          walk_at "rd"
          exact go2 H7 W
        refine ite_i (fun _ => bod) (fun _ => ⟨by decide, ite_i (fun _ => bod) (fun _ => kb _ ?_)⟩)
        clear ka kb bod
        walk_at "rd"
        exact go2 H3 W
      rintro σ H1 ⟨v7, v8, v9, x, A, t, P, d, C, rfl, W⟩
      refine k0 _ _ ?_
      clear k0 W18
      walk_at "rd"
      refine ⟨_, W.htl, .ref (x false), rfl, _, W.hml, .ref (d false), rfl, b, x false, d false, A false, C false, t false, P false, rfl, ⟨c, W.bag⟩, W.tr _, W.mo _, W.gd _, W.s1 _ b (by simp), W.s2 _ b (by simp), fun H2 kp2 => ⟨_, rfl, ?_⟩⟩
      rw [if_pos rfl]
      have W := W.kp kp2
      exact ⟨_, W.htl, .ref (x true), rfl, _, W.hml, .ref (d true), rfl, b, x true, d true, A true, C true, t true, P true, rfl, ⟨c, W.bag⟩, W.tr _, W.mo _, W.gd _, W.s1 _ b (by simp), W.s2 _ b (by simp), fun H2 kp2 => q _⟩
    clear k1
    refine ifI fun A2 B2' ka kb => ?_
    walk_at "rd"
    refine ⟨b, _, rfl, B2, by decide, by decide, fun ch H3 kp3 => ⟨ch, rfl, ?_⟩⟩
    have B3 := kp3.bag
    cases ch with
    | true =>
      rw [if_pos rfl]
      refine ka _ ?_
      clear ka kb
      walk_at "rd"
      refine ⟨b, _, rfl, B3, by decide, by decide, fun m H4 m0 m1 kp4 => ?_⟩
      obtain ⟨m, rfl⟩ := ni_nat m0
      walk_at "rd"
      rw [show (9 : Int) + (m : Nat) = ((9 + m : Nat) : Int) by omega]
      exact go _ _ (by omega) (by omega) kp4.bag
    | false =>
      rw [if_neg (by decide)]
      refine kb _ ?_
      clear ka kb
      walk_at "rd"
      rw [show (1 : Int) + (m : Nat) = ((1 + m : Nat) : Int) by omega]
      exact go _ _ (by omega) (by omega) B3
end
def d_f_Tree_MU_initU : He.DefD := ⟨("Tree", some "__init__"), "__init__", "Tree.__init__", defArgs s_Tree_MU_initU, defBody s_Tree_MU_initU, defScope s_Tree_MU_initU, [], []⟩
def d_f_Tree_M_check_thing : He.DefD := ⟨("Tree", some "check_thing"), "check_thing", "Tree.check_thing", defArgs s_Tree_M_check_thing, defBody s_Tree_M_check_thing, defScope s_Tree_M_check_thing, [], []⟩
def d_f_Tree_M_holder_of : He.DefD := ⟨("Tree", some "holder_of"), "holder_of", "Tree.holder_of", defArgs s_Tree_M_holder_of, defBody s_Tree_M_holder_of, defScope s_Tree_M_holder_of, [], []⟩
def d_f_Tree_M_first_of : He.DefD := ⟨("Tree", some "first_of"), "first_of", "Tree.first_of", defArgs s_Tree_M_first_of, defBody s_Tree_M_first_of, defScope s_Tree_M_first_of, [], []⟩
def d_f_Tree_M_beside_of : He.DefD := ⟨("Tree", some "beside_of"), "beside_of", "Tree.beside_of", defArgs s_Tree_M_beside_of, defBody s_Tree_M_beside_of, defScope s_Tree_M_beside_of, [], []⟩
def d_f_Tree_M_place_of : He.DefD := ⟨("Tree", some "place_of"), "place_of", "Tree.place_of", defArgs s_Tree_M_place_of, defBody s_Tree_M_place_of, defScope s_Tree_M_place_of, [], []⟩
def d_f_Tree_M_parts_of : He.DefD := ⟨("Tree", some "parts_of"), "parts_of", "Tree.parts_of", defArgs s_Tree_M_parts_of, defBody s_Tree_M_parts_of, defScope s_Tree_M_parts_of, [], []⟩
def d_f_Tree_M_holds : He.DefD := ⟨("Tree", some "holds"), "holds", "Tree.holds", defArgs s_Tree_M_holds, defBody s_Tree_M_holds, defScope s_Tree_M_holds, [], []⟩
def d_f_Tree_M_has_mark : He.DefD := ⟨("Tree", some "has_mark"), "has_mark", "Tree.has_mark", defArgs s_Tree_M_has_mark, defBody s_Tree_M_has_mark, defScope s_Tree_M_has_mark, [], []⟩
def d_f_Tree_M_give : He.DefD := ⟨("Tree", some "give"), "give", "Tree.give", defArgs s_Tree_M_give, defBody s_Tree_M_give, defScope s_Tree_M_give, [], []⟩
def d_f_Tree_M_strip : He.DefD := ⟨("Tree", some "strip"), "strip", "Tree.strip", defArgs s_Tree_M_strip, defBody s_Tree_M_strip, defScope s_Tree_M_strip, [], []⟩
def d_f_Tree_M_move : He.DefD := ⟨("Tree", some "move"), "move", "Tree.move", defArgs s_Tree_M_move, defBody s_Tree_M_move, defScope s_Tree_M_move, [], []⟩
def d_f_Tree_MU_getitemU : He.DefD := ⟨("Tree", some "__getitem__"), "__getitem__", "Tree.__getitem__", defArgs s_Tree_MU_getitemU, defBody s_Tree_MU_getitemU, defScope s_Tree_MU_getitemU, [], []⟩
def d_f_Tree_MU_setitemU : He.DefD := ⟨("Tree", some "__setitem__"), "__setitem__", "Tree.__setitem__", defArgs s_Tree_MU_setitemU, defBody s_Tree_MU_setitemU, defScope s_Tree_MU_setitemU, [], []⟩
def d_f_Tree_MU_lenU : He.DefD := ⟨("Tree", some "__len__"), "__len__", "Tree.__len__", defArgs s_Tree_MU_lenU, defBody s_Tree_MU_lenU, defScope s_Tree_MU_lenU, [], []⟩
def d_f_Tree_MU_containsU : He.DefD := ⟨("Tree", some "__contains__"), "__contains__", "Tree.__contains__", defArgs s_Tree_MU_containsU, defBody s_Tree_MU_containsU, defScope s_Tree_MU_containsU, [], []⟩
def d_f_Tree_MU_iterU : He.DefD := ⟨("Tree", some "__iter__"), "__iter__", "Tree.__iter__", defArgs s_Tree_MU_iterU, defBody s_Tree_MU_iterU, defScope s_Tree_MU_iterU, [], []⟩
def d_f_Tree_M_told : He.DefD := ⟨("Tree", some "told"), "told", "Tree.told", defArgs s_Tree_M_told, defBody s_Tree_M_told, defScope s_Tree_M_told, [], []⟩
def d_f_Tree_MU_eqU : He.DefD := ⟨("Tree", some "__eq__"), "__eq__", "Tree.__eq__", defArgs s_Tree_MU_eqU, defBody s_Tree_MU_eqU, defScope s_Tree_MU_eqU, [], []⟩
def d_f_Tree_M_copy : He.DefD := ⟨("Tree", some "copy"), "copy", "Tree.copy", defArgs s_Tree_M_copy, defBody s_Tree_M_copy, defScope s_Tree_M_copy, [], []⟩
def d_f_is_integer : He.DefD := ⟨("is_integer", none), "is_integer", "is_integer", defArgs s_is_integer, defBody s_is_integer, defScope s_is_integer, [], []⟩
def d_f_are_marks : He.DefD := ⟨("are_marks", none), "are_marks", "are_marks", defArgs s_are_marks, defBody s_are_marks, defScope s_are_marks, [], []⟩
def d_f_has_no_place : He.DefD := ⟨("has_no_place", none), "has_no_place", "has_no_place", defArgs s_has_no_place, defBody s_has_no_place, defScope s_has_no_place, [], []⟩
def d_f_comes_back : He.DefD := ⟨("comes_back", none), "comes_back", "comes_back", defArgs s_comes_back, defBody s_comes_back, defScope s_comes_back, [], []⟩
def d_f_is_row_of_parts : He.DefD := ⟨("is_row_of_parts", none), "is_row_of_parts", "is_row_of_parts", defArgs s_is_row_of_parts, defBody s_is_row_of_parts, defScope s_is_row_of_parts, [], []⟩
def d_f_is_row : He.DefD := ⟨("is_row", none), "is_row", "is_row", defArgs s_is_row, defBody s_is_row, defScope s_is_row, [], []⟩
def d_f_check_rows : He.DefD := ⟨("check_rows", none), "check_rows", "check_rows", defArgs s_check_rows, defBody s_check_rows, defScope s_check_rows, [], []⟩
def d_f__law_bag : He.DefD := ⟨("_law_bag", none), "_law_bag", "_law_bag", defArgs s__law_bag, defBody s__law_bag, defScope s__law_bag, [], []⟩
def d_f__law_pick : He.DefD := ⟨("_law_pick", none), "_law_pick", "_law_pick", defArgs s__law_pick, defBody s__law_pick, defScope s__law_pick, [], []⟩
def d_f__law_choice : He.DefD := ⟨("_law_choice", none), "_law_choice", "_law_choice", defArgs s__law_choice, defBody s__law_choice, defScope s__law_choice, [], []⟩
def d_f__law_one_in : He.DefD := ⟨("_law_one_in", none), "_law_one_in", "_law_one_in", defArgs s__law_one_in, defBody s__law_one_in, defScope s__law_one_in, [], []⟩
def d_f__law_shuffled : He.DefD := ⟨("_law_shuffled", none), "_law_shuffled", "_law_shuffled", defArgs s__law_shuffled, defBody s__law_shuffled, defScope s__law_shuffled, [], []⟩
def d_f__law_once : He.DefD := ⟨("_law_once", none), "_law_once", "_law_once", defArgs s__law_once, defBody s__law_once, defScope s__law_once, [], []⟩
def d_f__law_holders : He.DefD := ⟨("_law_holders", none), "_law_holders", "_law_holders", defArgs s__law_holders, defBody s__law_holders, defScope s__law_holders, [], []⟩
def d_f__law_pairs : He.DefD := ⟨("_law_pairs", none), "_law_pairs", "_law_pairs", defArgs s__law_pairs, defBody s__law_pairs, defScope s__law_pairs, [], []⟩
def d_f__law_model : He.DefD := ⟨("_law_model", none), "_law_model", "_law_model", defArgs s__law_model, defBody s__law_model, defScope s__law_model, [], []⟩
def d_f__law_twin : He.DefD := ⟨("_law_twin", none), "_law_twin", "_law_twin", defArgs s__law_twin, defBody s__law_twin, defScope s__law_twin, [], []⟩
def d_f__law_inside : He.DefD := ⟨("_law_inside", none), "_law_inside", "_law_inside", defArgs s__law_inside, defBody s__law_inside, defScope s__law_inside, [], []⟩
def d_f__law_moved : He.DefD := ⟨("_law_moved", none), "_law_moved", "_law_moved", defArgs s__law_moved, defBody s__law_moved, defScope s__law_moved, [], []⟩
def d_f__law_marked : He.DefD := ⟨("_law_marked", none), "_law_marked", "_law_marked", defArgs s__law_marked, defBody s__law_marked, defScope s__law_marked, [], []⟩
def d_f__law_beside : He.DefD := ⟨("_law_beside", none), "_law_beside", "_law_beside", defArgs s__law_beside, defBody s__law_beside, defScope s__law_beside, [], []⟩
def d_f__law_parts : He.DefD := ⟨("_law_parts", none), "_law_parts", "_law_parts", defArgs s__law_parts, defBody s__law_parts, defScope s__law_parts, [], []⟩
def d_f__law_place : He.DefD := ⟨("_law_place", none), "_law_place", "_law_place", defArgs s__law_place, defBody s__law_place, defScope s__law_place, [], []⟩
def d_f__law_told : He.DefD := ⟨("_law_told", none), "_law_told", "_law_told", defArgs s__law_told, defBody s__law_told, defScope s__law_told, [], []⟩
def d_f__law_same : He.DefD := ⟨("_law_same", none), "_law_same", "_law_same", defArgs s__law_same, defBody s__law_same, defScope s__law_same, [], []⟩
def d_f__law_call : He.DefD := ⟨("_law_call", none), "_law_call", "_law_call", defArgs s__law_call, defBody s__law_call, defScope s__law_call, [], []⟩
def d_f__law_odd : He.DefD := ⟨("_law_odd", none), "_law_odd", "_law_odd", defArgs s__law_odd, defBody s__law_odd, defScope s__law_odd, [], []⟩
def d_f__law_refused : He.DefD := ⟨("_law_refused", none), "_law_refused", "_law_refused", defArgs s__law_refused, defBody s__law_refused, defScope s__law_refused, [], []⟩
def d_f__law_deed : He.DefD := ⟨("_law_deed", none), "_law_deed", "_law_deed", defArgs s__law_deed, defBody s__law_deed, defScope s__law_deed, [], []⟩
def d_f_law : He.DefD := ⟨("law", none), "law", "law", defArgs s_law, defBody s_law, defScope s_law, [], []⟩
def fn : List He.DefD := [d_f_Tree_MU_initU, d_f_Tree_M_check_thing, d_f_Tree_M_holder_of, d_f_Tree_M_first_of, d_f_Tree_M_beside_of, d_f_Tree_M_place_of, d_f_Tree_M_parts_of, d_f_Tree_M_holds, d_f_Tree_M_has_mark, d_f_Tree_M_give, d_f_Tree_M_strip, d_f_Tree_M_move, d_f_Tree_MU_getitemU, d_f_Tree_MU_setitemU, d_f_Tree_MU_lenU, d_f_Tree_MU_containsU, d_f_Tree_MU_iterU, d_f_Tree_M_told, d_f_Tree_MU_eqU, d_f_Tree_M_copy, d_f_is_integer, d_f_are_marks, d_f_has_no_place, d_f_comes_back, d_f_is_row_of_parts, d_f_is_row, d_f_check_rows, d_f__law_bag, d_f__law_pick, d_f__law_choice, d_f__law_one_in, d_f__law_shuffled, d_f__law_once, d_f__law_holders, d_f__law_pairs, d_f__law_model, d_f__law_twin, d_f__law_inside, d_f__law_moved, d_f__law_marked, d_f__law_beside, d_f__law_parts, d_f__law_place, d_f__law_told, d_f__law_same, d_f__law_call, d_f__law_odd, d_f__law_refused, d_f__law_deed, d_f_law]
def d_BadMark : FxH.InD := ⟨"BadMark", "mark", "BadMark.__init__", inClass (top 3) 0⟩
theorem bd_BadMark : ∀ (fd : FuncData) (p1 p2 : Pos), fd.params = xA d_BadMark.f p1 p2 → fd.defaults = .none → ∀ (u1 u2 : Value), bindArgs fd ⟨[u1, u2], []⟩ = pure [(("self" : Str), u1), (d_BadMark.f, u2)] := fun fd p1 p2 e1 e2 u1 u2 => by
  obtain ⟨n1, n2, n3, n4, n5, n6, n7, n8, n9, n10, n11, n12, n13, n14, n15⟩ := fd
  dsimp only at e1 e2
  subst e1 e2
  rfl
def d_BadTree : FxH.InD := ⟨"BadTree", "thing", "BadTree.__init__", inClass (top 4) 0⟩
theorem bd_BadTree : ∀ (fd : FuncData) (p1 p2 : Pos), fd.params = xA d_BadTree.f p1 p2 → fd.defaults = .none → ∀ (u1 u2 : Value), bindArgs fd ⟨[u1, u2], []⟩ = pure [(("self" : Str), u1), (d_BadTree.f, u2)] := fun fd p1 p2 e1 e2 u1 u2 => by
  obtain ⟨n1, n2, n3, n4, n5, n6, n7, n8, n9, n10, n11, n12, n13, n14, n15⟩ := fd
  dsimp only at e1 e2
  subst e1 e2
  rfl
def d_NoThing : FxH.InD := ⟨"NoThing", "thing", "NoThing.__init__", inClass (top 2) 0⟩
theorem bd_NoThing : ∀ (fd : FuncData) (p1 p2 : Pos), fd.params = xA d_NoThing.f p1 p2 → fd.defaults = .none → ∀ (u1 u2 : Value), bindArgs fd ⟨[u1, u2], []⟩ = pure [(("self" : Str), u1), (d_NoThing.f, u2)] := fun fd p1 p2 e1 e2 u1 u2 => by
  obtain ⟨n1, n2, n3, n4, n5, n6, n7, n8, n9, n10, n11, n12, n13, n14, n15⟩ := fd
  dsimp only at e1 e2
  subst e1 e2
  rfl
def fi : List FxH.InD := [d_BadMark, d_BadTree, d_NoThing]
def fa : List FxH.Fct := [(He.Fa.free "all").ok,
  (He.Fa.free "bool").ok,
  (He.Fa.free "enumerate").ok,
  (He.Fa.free "int").ok,
  (He.Fa.free "isinstance").ok,
  (He.Fa.free "iter").ok,
  (He.Fa.free "len").ok,
  (He.Fa.free "list").ok,
  (He.Fa.free "range").ok,
  (He.Fa.free "repr").ok,
  (He.Fa.free "sorted").ok,
  (He.Fa.free "tuple").ok,
  (He.Fa.free "super").ok,
  (He.Fa.int "MOST_MARKS" 32).ok,
  (He.Fa.int "MOST_THINGS" 60).ok,
  (He.Fa.glo "BadMark").ok,
  (fun K => FxH.excB K "BadMark"),
  (He.Fa.glo "BadTree").ok,
  (fun K => FxH.excB K "BadTree"),
  (He.Fa.glo "FableError").ok,
  (He.Fa.glo "NoThing").ok,
  (fun K => FxH.excB K "NoThing"),
  (He.Fa.glo "Tree").ok,
  (He.Fa.cls "Tree").ok,
  (He.Fa.noat "Tree" "besides").ok,
  (He.Fa.noat "Tree" "firsts").ok,
  (He.Fa.noat "Tree" "holders").ok,
  (He.Fa.noat "Tree" "mark_rows").ok,
  (He.Fa.noat "Tree" "numbers_now").ok,
  (fun K => ixB K (He.ga K "Tree")),
  (fun K => decide (PySem.W.exmOne K (.ref (He.ga K "NoThing")) (.ref (He.ga K "NoThing")) = some true)),
  (fun K => decide (PySem.W.exmOne K (.ref (He.ga K "BadMark")) (.ref (He.ga K "BadMark")) = some true)),
  (fun K => decide (PySem.W.exmOne K (.ref (He.ga K "BadMark")) (.ref (He.ga K "NoThing")) = some false)),
  (fun K => decide (PySem.W.kitOne K (.ref (He.ga K "NoThing")) (.ref (He.ga K "FableError")) = some true)),
  (fun K => decide (PySem.W.kitOne K (.ref (He.ga K "NoThing")) (.ref (He.ga K "BadMark")) = some false)),
  (fun K => decide (PySem.W.kitOne K (.ref (He.ga K "BadMark")) (.ref (He.ga K "FableError")) = some true)),
  (fun K => decide (PySem.W.kitOne K (.ref (He.ga K "BadMark")) (.ref (He.ga K "NoThing")) = some false)),
  (fun K => insB K (He.ga K "Tree")),
  (fun K => PySem.W.noSeq K (He.ga K "Tree")),
  (He.Fa.mkr "Tree").ok,
  (He.Fa.meth "Tree" "check_thing").ok,
  (He.Fa.meth "Tree" "holder_of").ok,
  (He.Fa.meth "Tree" "first_of").ok,
  (He.Fa.meth "Tree" "beside_of").ok,
  (He.Fa.meth "Tree" "place_of").ok,
  (He.Fa.meth "Tree" "parts_of").ok,
  (He.Fa.meth "Tree" "holds").ok,
  (He.Fa.meth "Tree" "has_mark").ok,
  (He.Fa.meth "Tree" "give").ok,
  (He.Fa.meth "Tree" "strip").ok,
  (He.Fa.meth "Tree" "move").ok,
  (He.Fa.meth "Tree" "__getitem__").ok,
  (He.Fa.meth "Tree" "__setitem__").ok,
  (He.Fa.meth "Tree" "__len__").ok,
  (He.Fa.meth "Tree" "__contains__").ok,
  (He.Fa.meth "Tree" "__iter__").ok,
  (He.Fa.meth "Tree" "told").ok,
  (He.Fa.meth "Tree" "__eq__").ok,
  (He.Fa.meth "Tree" "copy").ok,
  (He.Fa.glo "is_integer").ok,
  (He.Fa.glo "are_marks").ok,
  (He.Fa.glo "has_no_place").ok,
  (He.Fa.glo "comes_back").ok,
  (He.Fa.glo "is_row_of_parts").ok,
  (He.Fa.glo "is_row").ok,
  (He.Fa.glo "check_rows").ok,
  (He.Fa.glo "_law_bag").ok,
  (He.Fa.glo "_law_pick").ok,
  (He.Fa.glo "_law_choice").ok,
  (He.Fa.glo "_law_one_in").ok,
  (He.Fa.glo "_law_shuffled").ok,
  (He.Fa.glo "_law_once").ok,
  (He.Fa.glo "_law_holders").ok,
  (He.Fa.glo "_law_pairs").ok,
  (He.Fa.glo "_law_model").ok,
  (He.Fa.glo "_law_twin").ok,
  (He.Fa.glo "_law_inside").ok,
  (He.Fa.glo "_law_moved").ok,
  (He.Fa.glo "_law_marked").ok,
  (He.Fa.glo "_law_beside").ok,
  (He.Fa.glo "_law_parts").ok,
  (He.Fa.glo "_law_place").ok,
  (He.Fa.glo "_law_told").ok,
  (He.Fa.glo "_law_same").ok,
  (He.Fa.glo "_law_call").ok,
  (He.Fa.glo "_law_odd").ok,
  (He.Fa.glo "_law_refused").ok,
  (He.Fa.glo "_law_deed").ok,
  (He.Fa.glo "law").ok]
abbrev R : PySem.W.OpenRow := PySem.W.OpenLaw.row PySem.Challenge.rw_fablemill_k15_trees_moved
def file : Str := PySem.Challenge.pw_fablemill_k15_trees_moved.main.file
def fs : List FxH.StD := [⟨"Tree", "of", "Tree.of", s_Tree_M_of⟩]
abbrev hk : PySem.W.Hook := FxH.hookS 6 file fa fn fi fs
def ob (s : PySem.W.SharedT) : FxH.AlS := FxH.obsSG 6 file fa fn fi fs (HandSHeadRun.getT s)
theorem ob_eq (s : PySem.W.SharedT) : ob s = hk.obs s.abs := FxH.obsSG_eq (HandSHeadRun.getT_eq s)
def loose : List PySem.Str := (["FableError", "NoThing", "BadMark", "BadTree", "is_integer", "MOST_THINGS", "MOST_MARKS", "are_marks", "has_no_place", "comes_back", "is_row_of_parts", "is_row"] : List PySem.Str) ++ (["check_rows", "Tree", "_law_bag", "_law_pick", "_law_choice", "_law_one_in", "_law_shuffled", "_law_once", "_law_holders", "_law_pairs", "_law_model", "_law_twin"] : List PySem.Str) ++ (["_law_inside", "_law_moved", "_law_marked", "_law_beside", "_law_parts", "_law_place", "_law_told", "_law_same", "_law_call", "_law_odd", "_law_refused", "_law_deed"] : List PySem.Str)
theorem run (w : World) : HandSHeadRun.RunEq R (PySem.W.view R.prog [40]) hk ob 20000 loose w := by
  intro os
  kernel_rfl
theorem facts {w : World} {K : PySem.W.Frag} {h : Heap} {mg : Str → Option Value} {f : Addr} (X : K.In h) (G : h.Ns mainGlobals mg) (hfa : mg ("law" : Str) = some (.ref f)) (c0 : FxH.SaysS file fa fn fi fs K) :
    ∃ fd : FuncData, (∀ (s : Shared) (v : Value), BindsTo s fd ⟨[v], []⟩ [("_law_script", v)]) ∧ ∀ base : Heap, K.In base → base.Ns mainGlobals mg → FnG PySem.Challenge.pw_fablemill_k15_trees_moved w K mg base CX0 9 f fd ["_law_script"] (spLaw K) := by
  have c := c0.x
  have T : Tx PySem.Challenge.pw_fablemill_k15_trees_moved K mg := {
    b_all := He.free_ok X G (c.fact 0),
    b_bool := He.free_ok X G (c.fact 1),
    b_enumerate := He.free_ok X G (c.fact 2),
    b_int := He.free_ok X G (c.fact 3),
    b_isinstance := He.free_ok X G (c.fact 4),
    b_iter := He.free_ok X G (c.fact 5),
    b_len := He.free_ok X G (c.fact 6),
    b_list := He.free_ok X G (c.fact 7),
    b_range := He.free_ok X G (c.fact 8),
    b_repr := He.free_ok X G (c.fact 9),
    b_sorted := He.free_ok X G (c.fact 10),
    b_tuple := He.free_ok X G (c.fact 11),
    b_super := He.free_ok X G (c.fact 12),
    c_MOST_MARKS := cst_int (He.int_ok X G (c.fact 13)),
    c_MOST_THINGS := cst_int (He.int_ok X G (c.fact 14)),
    g_BadMark := He.glo_ok X G (c.fact 15),
    x_BadMark := FxH.InD.xc (P := PySem.Challenge.pw_fablemill_k15_trees_moved) (d := d_BadMark) (c.ini 0).1 (c.ini 0).2 (FOk.mk' (by decide +kernel) (by decide +kernel) (by decide +kernel) (by decide +kernel)) rfl rfl rfl rfl (bd_BadMark) (by decide +kernel),
    e_BadMark := FxH.excB_ok (c.fact 16),
    g_BadTree := He.glo_ok X G (c.fact 17),
    x_BadTree := FxH.InD.xc (P := PySem.Challenge.pw_fablemill_k15_trees_moved) (d := d_BadTree) (c.ini 1).1 (c.ini 1).2 (FOk.mk' (by decide +kernel) (by decide +kernel) (by decide +kernel) (by decide +kernel)) rfl rfl rfl rfl (bd_BadTree) (by decide +kernel),
    e_BadTree := FxH.excB_ok (c.fact 18),
    g_FableError := He.glo_ok X G (c.fact 19),
    g_NoThing := He.glo_ok X G (c.fact 20),
    x_NoThing := FxH.InD.xc (P := PySem.Challenge.pw_fablemill_k15_trees_moved) (d := d_NoThing) (c.ini 2).1 (c.ini 2).2 (FOk.mk' (by decide +kernel) (by decide +kernel) (by decide +kernel) (by decide +kernel)) rfl rfl rfl rfl (bd_NoThing) (by decide +kernel),
    e_NoThing := FxH.excB_ok (c.fact 21),
    g_Tree := He.glo_ok X G (c.fact 22),
    cl_Tree := He.cls_ok (c.fact 23),
    n_Tree_besides := He.noat_ok (c.fact 24),
    n_Tree_firsts := He.noat_ok (c.fact 25),
    n_Tree_holders := He.noat_ok (c.fact 26),
    n_Tree_mark_rows := He.noat_ok (c.fact 27),
    n_Tree_numbers_now := He.noat_ok (c.fact 28),
    ix_Tree := c.fact 29,
    m_NT := of_decide_eq_true (c.fact 30),
    m_BM := of_decide_eq_true (c.fact 31),
    m_BN := of_decide_eq_true (c.fact 32),
    k_NF := of_decide_eq_true (c.fact 33),
    k_NB := of_decide_eq_true (c.fact 34),
    k_BF := of_decide_eq_true (c.fact 35),
    k_BN := of_decide_eq_true (c.fact 36),
    i_Tree := c.fact 37,
    ns_Tree := c.fact 38 }
  obtain ⟨fd0, F0⟩ := c.def_ 0 (d := d_f_Tree_MU_initU) rfl
  obtain ⟨fd1, F1⟩ := c.def_ 1 (d := d_f_Tree_M_check_thing) rfl
  obtain ⟨fd2, F2⟩ := c.def_ 2 (d := d_f_Tree_M_holder_of) rfl
  obtain ⟨fd3, F3⟩ := c.def_ 3 (d := d_f_Tree_M_first_of) rfl
  obtain ⟨fd4, F4⟩ := c.def_ 4 (d := d_f_Tree_M_beside_of) rfl
  obtain ⟨fd5, F5⟩ := c.def_ 5 (d := d_f_Tree_M_place_of) rfl
  obtain ⟨fd6, F6⟩ := c.def_ 6 (d := d_f_Tree_M_parts_of) rfl
  obtain ⟨fd7, F7⟩ := c.def_ 7 (d := d_f_Tree_M_holds) rfl
  obtain ⟨fd8, F8⟩ := c.def_ 8 (d := d_f_Tree_M_has_mark) rfl
  obtain ⟨fd9, F9⟩ := c.def_ 9 (d := d_f_Tree_M_give) rfl
  obtain ⟨fd10, F10⟩ := c.def_ 10 (d := d_f_Tree_M_strip) rfl
  obtain ⟨fd11, F11⟩ := c.def_ 11 (d := d_f_Tree_M_move) rfl
  obtain ⟨fd12, F12⟩ := c.def_ 12 (d := d_f_Tree_MU_getitemU) rfl
  obtain ⟨fd13, F13⟩ := c.def_ 13 (d := d_f_Tree_MU_setitemU) rfl
  obtain ⟨fd14, F14⟩ := c.def_ 14 (d := d_f_Tree_MU_lenU) rfl
  obtain ⟨fd15, F15⟩ := c.def_ 15 (d := d_f_Tree_MU_containsU) rfl
  obtain ⟨fd16, F16⟩ := c.def_ 16 (d := d_f_Tree_MU_iterU) rfl
  obtain ⟨fd17, F17⟩ := c.def_ 17 (d := d_f_Tree_M_told) rfl
  obtain ⟨fd18, F18⟩ := c.def_ 18 (d := d_f_Tree_MU_eqU) rfl
  obtain ⟨fd19, F19⟩ := c.def_ 19 (d := d_f_Tree_M_copy) rfl
  obtain ⟨fd20, F20⟩ := c.def_ 20 (d := d_f_is_integer) rfl
  have S_is_integer : Src K mg "is_integer" s_is_integer := ⟨_, fd20, He.glo_ok X G (c.fact 59), F20⟩
  obtain ⟨fd21, F21⟩ := c.def_ 21 (d := d_f_are_marks) rfl
  have S_are_marks : Src K mg "are_marks" s_are_marks := ⟨_, fd21, He.glo_ok X G (c.fact 60), F21⟩
  obtain ⟨fd22, F22⟩ := c.def_ 22 (d := d_f_has_no_place) rfl
  have S_has_no_place : Src K mg "has_no_place" s_has_no_place := ⟨_, fd22, He.glo_ok X G (c.fact 61), F22⟩
  obtain ⟨fd23, F23⟩ := c.def_ 23 (d := d_f_comes_back) rfl
  have S_comes_back : Src K mg "comes_back" s_comes_back := ⟨_, fd23, He.glo_ok X G (c.fact 62), F23⟩
  obtain ⟨fd24, F24⟩ := c.def_ 24 (d := d_f_is_row_of_parts) rfl
  have S_is_row_of_parts : Src K mg "is_row_of_parts" s_is_row_of_parts := ⟨_, fd24, He.glo_ok X G (c.fact 63), F24⟩
  obtain ⟨fd25, F25⟩ := c.def_ 25 (d := d_f_is_row) rfl
  have S_is_row : Src K mg "is_row" s_is_row := ⟨_, fd25, He.glo_ok X G (c.fact 64), F25⟩
  obtain ⟨fd26, F26⟩ := c.def_ 26 (d := d_f_check_rows) rfl
  have S_check_rows : Src K mg "check_rows" s_check_rows := ⟨_, fd26, He.glo_ok X G (c.fact 65), F26⟩
  obtain ⟨fd27, F27⟩ := c.def_ 27 (d := d_f__law_bag) rfl
  have S__law_bag : Src K mg "_law_bag" s__law_bag := ⟨_, fd27, He.glo_ok X G (c.fact 66), F27⟩
  obtain ⟨fd28, F28⟩ := c.def_ 28 (d := d_f__law_pick) rfl
  have S__law_pick : Src K mg "_law_pick" s__law_pick := ⟨_, fd28, He.glo_ok X G (c.fact 67), F28⟩
  obtain ⟨fd29, F29⟩ := c.def_ 29 (d := d_f__law_choice) rfl
  have S__law_choice : Src K mg "_law_choice" s__law_choice := ⟨_, fd29, He.glo_ok X G (c.fact 68), F29⟩
  obtain ⟨fd30, F30⟩ := c.def_ 30 (d := d_f__law_one_in) rfl
  have S__law_one_in : Src K mg "_law_one_in" s__law_one_in := ⟨_, fd30, He.glo_ok X G (c.fact 69), F30⟩
  obtain ⟨fd31, F31⟩ := c.def_ 31 (d := d_f__law_shuffled) rfl
  have S__law_shuffled : Src K mg "_law_shuffled" s__law_shuffled := ⟨_, fd31, He.glo_ok X G (c.fact 70), F31⟩
  obtain ⟨fd32, F32⟩ := c.def_ 32 (d := d_f__law_once) rfl
  have S__law_once : Src K mg "_law_once" s__law_once := ⟨_, fd32, He.glo_ok X G (c.fact 71), F32⟩
  obtain ⟨fd33, F33⟩ := c.def_ 33 (d := d_f__law_holders) rfl
  have S__law_holders : Src K mg "_law_holders" s__law_holders := ⟨_, fd33, He.glo_ok X G (c.fact 72), F33⟩
  obtain ⟨fd34, F34⟩ := c.def_ 34 (d := d_f__law_pairs) rfl
  have S__law_pairs : Src K mg "_law_pairs" s__law_pairs := ⟨_, fd34, He.glo_ok X G (c.fact 73), F34⟩
  obtain ⟨fd35, F35⟩ := c.def_ 35 (d := d_f__law_model) rfl
  have S__law_model : Src K mg "_law_model" s__law_model := ⟨_, fd35, He.glo_ok X G (c.fact 74), F35⟩
  obtain ⟨fd36, F36⟩ := c.def_ 36 (d := d_f__law_twin) rfl
  have S__law_twin : Src K mg "_law_twin" s__law_twin := ⟨_, fd36, He.glo_ok X G (c.fact 75), F36⟩
  obtain ⟨fd37, F37⟩ := c.def_ 37 (d := d_f__law_inside) rfl
  have S__law_inside : Src K mg "_law_inside" s__law_inside := ⟨_, fd37, He.glo_ok X G (c.fact 76), F37⟩
  obtain ⟨fd38, F38⟩ := c.def_ 38 (d := d_f__law_moved) rfl
  have S__law_moved : Src K mg "_law_moved" s__law_moved := ⟨_, fd38, He.glo_ok X G (c.fact 77), F38⟩
  obtain ⟨fd39, F39⟩ := c.def_ 39 (d := d_f__law_marked) rfl
  have S__law_marked : Src K mg "_law_marked" s__law_marked := ⟨_, fd39, He.glo_ok X G (c.fact 78), F39⟩
  obtain ⟨fd40, F40⟩ := c.def_ 40 (d := d_f__law_beside) rfl
  have S__law_beside : Src K mg "_law_beside" s__law_beside := ⟨_, fd40, He.glo_ok X G (c.fact 79), F40⟩
  obtain ⟨fd41, F41⟩ := c.def_ 41 (d := d_f__law_parts) rfl
  have S__law_parts : Src K mg "_law_parts" s__law_parts := ⟨_, fd41, He.glo_ok X G (c.fact 80), F41⟩
  obtain ⟨fd42, F42⟩ := c.def_ 42 (d := d_f__law_place) rfl
  have S__law_place : Src K mg "_law_place" s__law_place := ⟨_, fd42, He.glo_ok X G (c.fact 81), F42⟩
  obtain ⟨fd43, F43⟩ := c.def_ 43 (d := d_f__law_told) rfl
  have S__law_told : Src K mg "_law_told" s__law_told := ⟨_, fd43, He.glo_ok X G (c.fact 82), F43⟩
  obtain ⟨fd44, F44⟩ := c.def_ 44 (d := d_f__law_same) rfl
  have S__law_same : Src K mg "_law_same" s__law_same := ⟨_, fd44, He.glo_ok X G (c.fact 83), F44⟩
  obtain ⟨fd45, F45⟩ := c.def_ 45 (d := d_f__law_call) rfl
  have S__law_call : Src K mg "_law_call" s__law_call := ⟨_, fd45, He.glo_ok X G (c.fact 84), F45⟩
  obtain ⟨fd46, F46⟩ := c.def_ 46 (d := d_f__law_odd) rfl
  have S__law_odd : Src K mg "_law_odd" s__law_odd := ⟨_, fd46, He.glo_ok X G (c.fact 85), F46⟩
  obtain ⟨fd47, F47⟩ := c.def_ 47 (d := d_f__law_refused) rfl
  have S__law_refused : Src K mg "_law_refused" s__law_refused := ⟨_, fd47, He.glo_ok X G (c.fact 86), F47⟩
  obtain ⟨fd48, F48⟩ := c.def_ 48 (d := d_f__law_deed) rfl
  have S__law_deed : Src K mg "_law_deed" s__law_deed := ⟨_, fd48, He.glo_ok X G (c.fact 87), F48⟩
  obtain ⟨fd, F⟩ := c.def_ 49 (d := d_f_law) rfl
  have e := hfa.symm.trans (He.glo_ok X G (c.fact 88 (f := (He.Fa.glo "law").ok) rfl))
  cases e
  have b := FunD.bindsA (ps := ["_law_script"]) F fun _ _ _ _ _ _ us hl => match us, hl with | [_], _ => rfl
  refine ⟨fd, fun s v => b s [v] rfl, fun base hK hG => ?_⟩
  obtain ⟨se0, sk0⟩ := c0.st 0
  obtain ⟨sfd0, SF0⟩ := FxH.StD.funD se0 sk0
  obtain ⟨SM0, SR0⟩ := FxH.StD.sta sk0
  have C_is_integer : Cal PySem.Challenge.pw_fablemill_k15_trees_moved w K mg base CX0 1 "is_integer" ["thing", "low", "high"] spIsI := ok_is_integer S_is_integer T 
  have C_comes_back : Cal PySem.Challenge.pw_fablemill_k15_trees_moved w K mg base CX0 1 "comes_back" ["holders", "thing"] spComes := ok_comes_back S_comes_back T 
  have C_Tree_MU_initU : CalI PySem.Challenge.pw_fablemill_k15_trees_moved w K mg base (L2.CX PySem.Challenge.pw_fablemill_k15_trees_moved w) 3 (He.ga K "Tree") ["self", "rows"] (spTree K) := ok_Tree_MU_initU F0 (He.mkr_ok (c.fact 39)) T C_is_integer C_comes_back
  have C_Tree_M_check_thing : CalM PySem.Challenge.pw_fablemill_k15_trees_moved w K mg base (L2.CX PySem.Challenge.pw_fablemill_k15_trees_moved w) 3 (He.ga K "Tree") "check_thing" ["self", "thing"] (spChk K) := ok_Tree_M_check_thing F1 (He.meth_ok (c.fact 40)) T C_is_integer
  have C_Tree_M_holder_of : CalM PySem.Challenge.pw_fablemill_k15_trees_moved w K mg base (L2.CX PySem.Challenge.pw_fablemill_k15_trees_moved w) 4 (He.ga K "Tree") "holder_of" ["self", "thing"] (spNum K (fun t i => t.hol.getD i 0) fun _ => True) := ok_Tree_M_holder_of F2 (He.meth_ok (c.fact 41)) T C_Tree_M_check_thing
  have C_Tree_M_first_of : CalM PySem.Challenge.pw_fablemill_k15_trees_moved w K mg base (L2.CX PySem.Challenge.pw_fablemill_k15_trees_moved w) 4 (He.ga K "Tree") "first_of" ["self", "thing"] (spNum K (fun t i => t.fir.getD i 0) fun _ => True) := ok_Tree_M_first_of F3 (He.meth_ok (c.fact 42)) T C_Tree_M_check_thing
  have C_Tree_M_beside_of : CalM PySem.Challenge.pw_fablemill_k15_trees_moved w K mg base (L2.CX PySem.Challenge.pw_fablemill_k15_trees_moved w) 4 (He.ga K "Tree") "beside_of" ["self", "thing"] (spNum K (fun t i => t.bes.getD i 0) fun _ => True) := ok_Tree_M_beside_of F4 (He.meth_ok (c.fact 43)) T C_Tree_M_check_thing
  have C_Tree_M_place_of : CalM PySem.Challenge.pw_fablemill_k15_trees_moved w K mg base (L2.CX PySem.Challenge.pw_fablemill_k15_trees_moved w) 4 (He.ga K "Tree") "place_of" ["self", "thing"] (spNum K (fun t i => topN t.hol t.n i) RankT) := ok_Tree_M_place_of F5 (He.meth_ok (c.fact 44)) T C_Tree_M_check_thing
  have C_Tree_M_parts_of : CalM PySem.Challenge.pw_fablemill_k15_trees_moved w K mg base (L2.CX PySem.Challenge.pw_fablemill_k15_trees_moved w) 4 (He.ga K "Tree") "parts_of" ["self", "thing"] (spParts K) := ok_Tree_M_parts_of F6 (He.meth_ok (c.fact 45)) T C_Tree_M_check_thing
  have C_Tree_M_holds : CalM PySem.Challenge.pw_fablemill_k15_trees_moved w K mg base (L2.CX PySem.Challenge.pw_fablemill_k15_trees_moved w) 4 (He.ga K "Tree") "holds" ["self", "thing", "other"] (spHolds K) := ok_Tree_M_holds F7 (He.meth_ok (c.fact 46)) T C_Tree_M_check_thing
  have C_Tree_M_has_mark : CalM PySem.Challenge.pw_fablemill_k15_trees_moved w K mg base (L2.CX PySem.Challenge.pw_fablemill_k15_trees_moved w) 4 (He.ga K "Tree") "has_mark" ["self", "thing", "mark"] (spHas K) := ok_Tree_M_has_mark F8 (He.meth_ok (c.fact 47)) T C_Tree_M_check_thing C_is_integer
  have C_Tree_M_give : CalM PySem.Challenge.pw_fablemill_k15_trees_moved w K mg base (L2.CX PySem.Challenge.pw_fablemill_k15_trees_moved w) 5 (He.ga K "Tree") "give" ["self", "thing", "mark"] (spMarks K giveL) := ok_Tree_M_give F9 (He.meth_ok (c.fact 48)) T C_Tree_M_has_mark
  have C_Tree_M_strip : CalM PySem.Challenge.pw_fablemill_k15_trees_moved w K mg base (L2.CX PySem.Challenge.pw_fablemill_k15_trees_moved w) 5 (He.ga K "Tree") "strip" ["self", "thing", "mark"] (spMarks K fun _ => stripL) := ok_Tree_M_strip F10 (He.meth_ok (c.fact 49)) T C_Tree_M_has_mark
  have C_Tree_M_move : CalM PySem.Challenge.pw_fablemill_k15_trees_moved w K mg base (L2.CX PySem.Challenge.pw_fablemill_k15_trees_moved w) 5 (He.ga K "Tree") "move" ["self", "thing", "holder"] (spMove K) := ok_Tree_M_move F11 (He.meth_ok (c.fact 50)) T C_Tree_M_check_thing C_Tree_M_holds
  have C_Tree_MU_getitemU : CalM PySem.Challenge.pw_fablemill_k15_trees_moved w K mg base (L2.CX PySem.Challenge.pw_fablemill_k15_trees_moved w) 4 (He.ga K "Tree") "__getitem__" ["self", "thing"] (spNum K (fun t i => t.hol.getD i 0) fun _ => True) := ok_Tree_MU_getitemU F12 (He.meth_ok (c.fact 51)) T C_Tree_M_check_thing
  have C_Tree_MU_setitemU : CalM PySem.Challenge.pw_fablemill_k15_trees_moved w K mg base (L2.CX PySem.Challenge.pw_fablemill_k15_trees_moved w) 6 (He.ga K "Tree") "__setitem__" ["self", "thing", "holder"] (spMove K) := ok_Tree_MU_setitemU F13 (He.meth_ok (c.fact 52)) T C_Tree_M_move
  have C_Tree_MU_lenU : CalM PySem.Challenge.pw_fablemill_k15_trees_moved w K mg base CX0 1 (He.ga K "Tree") "__len__" ["self"] (spLen K) := ok_Tree_MU_lenU F14 (He.meth_ok (c.fact 53)) T 
  have C_Tree_MU_containsU : CalM PySem.Challenge.pw_fablemill_k15_trees_moved w K mg base CX0 2 (He.ga K "Tree") "__contains__" ["self", "thing"] (spCont K) := ok_Tree_MU_containsU F15 (He.meth_ok (c.fact 54)) T C_is_integer
  have C_Tree_MU_iterU : CalM PySem.Challenge.pw_fablemill_k15_trees_moved w K mg base CX0 1 (He.ga K "Tree") "__iter__" ["self"] (spIter K) := ok_Tree_MU_iterU F16 (He.meth_ok (c.fact 55)) T 
  have C_Tree_M_told : CalM PySem.Challenge.pw_fablemill_k15_trees_moved w K mg base CX0 1 (He.ga K "Tree") "told" ["self"] (spTold K) := ok_Tree_M_told F17 (He.meth_ok (c.fact 56)) T 
  have C_Tree_MU_eqU : CalM PySem.Challenge.pw_fablemill_k15_trees_moved w K mg base CX0 2 (He.ga K "Tree") "__eq__" ["self", "other"] (spEqT K) := ok_Tree_MU_eqU F18 (He.meth_ok (c.fact 57)) T C_Tree_M_told
  have C_are_marks : Cal PySem.Challenge.pw_fablemill_k15_trees_moved w K mg base CX0 2 "are_marks" ["thing", "most"] spAreM := ok_are_marks S_are_marks T C_is_integer
  have C_is_row : Cal PySem.Challenge.pw_fablemill_k15_trees_moved w K mg base CX0 3 "is_row" ["row", "most", "many"] spIsRow := ok_is_row S_is_row T C_are_marks C_is_integer
  have C_is_row_of_parts : Cal PySem.Challenge.pw_fablemill_k15_trees_moved w K mg base CX0 1 "is_row_of_parts" ["holders", "besides", "first", "thing"] spRowP := ok_is_row_of_parts S_is_row_of_parts T 
  have C_has_no_place : Cal PySem.Challenge.pw_fablemill_k15_trees_moved w K mg base CX0 1 "has_no_place" ["holders", "thing"] spNoPlace := ok_has_no_place S_has_no_place T 
  have C_check_rows : Cal PySem.Challenge.pw_fablemill_k15_trees_moved w K mg base CX0 4 "check_rows" ["rows", "most"] spCheck := ok_check_rows S_check_rows T C_is_row C_is_row_of_parts C_has_no_place
  have C_Tree_M_of : CalS PySem.Challenge.pw_fablemill_k15_trees_moved w K mg base (L2.CX PySem.Challenge.pw_fablemill_k15_trees_moved w) 5 (He.ga K "Tree") "of" ["rows"] (spOf K) := ok_Tree_M_of SF0 SM0 SR0 T C_check_rows C_Tree_MU_initU
  have C_Tree_M_copy : CalM PySem.Challenge.pw_fablemill_k15_trees_moved w K mg base CX0 6 (He.ga K "Tree") "copy" ["self"] (spCopy K) := ok_Tree_M_copy F19 (He.meth_ok (c.fact 58)) T C_Tree_M_of C_Tree_M_told
  have C__law_bag : Cal PySem.Challenge.pw_fablemill_k15_trees_moved w K mg base CX0 1 "_law_bag" ["_law_script"] (spBag K) := ok__law_bag S__law_bag T 
  have C__law_pick : Cal PySem.Challenge.pw_fablemill_k15_trees_moved w K mg base CX0 1 "_law_pick" ["_law_bag_here", "_law_many"] spPick := ok__law_pick S__law_pick T 
  have C__law_choice : Cal PySem.Challenge.pw_fablemill_k15_trees_moved w K mg base CX0 2 "_law_choice" ["_law_bag_here", "_law_things"] spChoiceL := ok__law_choice S__law_choice T C__law_pick
  have C__law_one_in : Cal PySem.Challenge.pw_fablemill_k15_trees_moved w K mg base CX0 2 "_law_one_in" ["_law_bag_here", "_law_many"] spOneIn := ok__law_one_in S__law_one_in T C__law_pick
  have C__law_shuffled : Cal PySem.Challenge.pw_fablemill_k15_trees_moved w K mg base CX0 2 "_law_shuffled" ["_law_bag_here", "_law_things"] spShuf := ok__law_shuffled S__law_shuffled T C__law_pick
  have C__law_once : Cal PySem.Challenge.pw_fablemill_k15_trees_moved w K mg base CX0 1 "_law_once" ["_law_row"] spOnce := ok__law_once S__law_once T 
  have C__law_holders : Cal PySem.Challenge.pw_fablemill_k15_trees_moved w K mg base CX0 3 "_law_holders" ["_law_bag_here", "_law_many"] spHolders := ok__law_holders S__law_holders T C__law_shuffled C__law_one_in C__law_pick
  have C__law_pairs : Cal PySem.Challenge.pw_fablemill_k15_trees_moved w K mg base CX0 4 "_law_pairs" ["_law_bag_here", "_law_many"] spPairs := ok__law_pairs S__law_pairs T C__law_holders C__law_pick
  have C__law_model : Cal PySem.Challenge.pw_fablemill_k15_trees_moved w K mg base CX0 2 "_law_model" ["_law_pairs_here"] spModel := ok__law_model S__law_model T C__law_once
  have C__law_twin : Cal PySem.Challenge.pw_fablemill_k15_trees_moved w K mg base CX0 1 "_law_twin" ["_law_model_here"] spTwin := ok__law_twin S__law_twin T 
  have C__law_inside : Cal PySem.Challenge.pw_fablemill_k15_trees_moved w K mg base CX0 1 "_law_inside" ["_law_model_here", "_law_thing", "_law_other"] spInside := ok__law_inside S__law_inside T 
  have C__law_moved : Cal PySem.Challenge.pw_fablemill_k15_trees_moved w K mg base CX0 2 "_law_moved" ["_law_model_here", "_law_thing", "_law_holder"] spMoved := ok__law_moved S__law_moved T C__law_inside
  have C__law_marked : Cal PySem.Challenge.pw_fablemill_k15_trees_moved w K mg base CX0 1 "_law_marked" ["_law_model_here", "_law_thing", "_law_mark", "_law_given"] spMarked := ok__law_marked S__law_marked T 
  have C__law_beside : Cal PySem.Challenge.pw_fablemill_k15_trees_moved w K mg base CX0 1 "_law_beside" ["_law_model_here", "_law_thing"] spLBeside := ok__law_beside S__law_beside T 
  have C__law_parts : Cal PySem.Challenge.pw_fablemill_k15_trees_moved w K mg base CX0 1 "_law_parts" ["_law_model_here", "_law_thing"] spLParts := ok__law_parts S__law_parts T 
  have C__law_place : Cal PySem.Challenge.pw_fablemill_k15_trees_moved w K mg base CX0 1 "_law_place" ["_law_model_here", "_law_thing"] spLPlace := ok__law_place S__law_place T 
  have C__law_told : Cal PySem.Challenge.pw_fablemill_k15_trees_moved w K mg base CX0 2 "_law_told" ["_law_model_here"] spLTold := ok__law_told S__law_told T C__law_parts C__law_beside
  have C__law_same : CalG PySem.Challenge.pw_fablemill_k15_trees_moved w K mg base CX0 6 "_law_same" ["_law_bag_here", "_law_tree", "_law_model_here"] (spLSame K) := ok__law_same S__law_same T C_Tree_M_told C__law_told C_Tree_MU_iterU C_Tree_MU_lenU C_Tree_MU_containsU C__law_parts C__law_beside C__law_place C_Tree_M_holder_of C_Tree_MU_getitemU C_Tree_M_first_of C_Tree_M_beside_of C_Tree_M_place_of C_Tree_M_parts_of C__law_pick C_Tree_M_holds C__law_inside C_Tree_M_has_mark
  have C__law_call : CalG PySem.Challenge.pw_fablemill_k15_trees_moved w K mg base CX0 6 "_law_call" ["_law_tree", "_law_way", "_law_one", "_law_two"] (spLCall K) := ok__law_call S__law_call T C_Tree_M_holder_of C_Tree_M_first_of C_Tree_M_beside_of C_Tree_M_place_of C_Tree_M_parts_of C_Tree_M_holds C_Tree_M_move C_Tree_M_has_mark C_Tree_M_give C_Tree_M_strip
  have C__law_odd : Cal PySem.Challenge.pw_fablemill_k15_trees_moved w K mg base CX0 3 "_law_odd" ["_law_bag_here", "_law_many"] (spLOdd K) := ok__law_odd S__law_odd T C__law_pick C__law_choice
  have C__law_refused : CalG PySem.Challenge.pw_fablemill_k15_trees_moved w K mg base CX0 7 "_law_refused" ["_law_bag_here", "_law_tree", "_law_many"] (spLRef K) := ok__law_refused S__law_refused T C__law_pick C__law_odd C__law_call C__law_one_in C__law_choice
  have C__law_deed : CalG PySem.Challenge.pw_fablemill_k15_trees_moved w K mg base CX0 8 "_law_deed" ["_law_bag_here", "_law_tree", "_law_model_here"] (spLDeed K) := ok__law_deed S__law_deed T C__law_pick C__law_one_in C_Tree_MU_setitemU C_Tree_M_move C__law_moved C__law_choice C_Tree_M_give C__law_marked C_Tree_M_strip C__law_refused
  exact ok_law F T C__law_bag C__law_pick C__law_one_in C__law_pairs C_Tree_MU_initU C__law_model C__law_deed C__law_same C_Tree_MU_eqU C__law_told C_Tree_M_copy C__law_twin
end K15
open PySem PySem.W PySem.Calls PyProof.Rows
theorem PySem.Challenge.cw_fablemill_k15_trees_moved_holds : PySem.Challenge.rw_fablemill_k15_trees_moved.Holds := by
  w_on; o_law
  refine HandSHeadRun.head_any (r := OpenLaw.row PySem.Challenge.rw_fablemill_k15_trees_moved) (q := view (OpenLaw.row PySem.Challenge.rw_fablemill_k15_trees_moved).prog [40]) (H := K15.hk) (ob := K15.ob) (M := 20000) (loose := K15.loose) (d := HandSHeadRun.topDef (OpenLaw.row PySem.Challenge.rw_fablemill_k15_trees_moved).prog 40) (kwd := []) K15.ob_eq
    (by kernel_rfl) (fun s => by kernel_rfl) K15.run (by kernel_rfl) (by kernel_rfl) (by kernel_rfl) (by rfl) (by first | assumption | decide +kernel) (by decide +kernel) ⟨rfl, rfl, rfl, rfl, rfl, by decide +kernel⟩ ?hw ?hc
  case hw => w_witness2
  case hc =>
    refine Fx.walk_ofG (l := PySem.Challenge.rw_fablemill_k15_trees_moved) (n := 63) (k := 9) (x := "_law_script") rfl (by decide) (by kernel_rfl) ⟨rfl, by decide, by decide⟩ ?F
    intro w mg fa h Y G hmg0
    obtain ⟨K, KX, c⟩ := Y
    have hmg : mg ("law" : PySem.Str) = some (.ref fa) := by
      have e : (HandSHeadRun.topDef (OpenLaw.row PySem.Challenge.rw_fablemill_k15_trees_moved).prog 40).name = ("law" : PySem.Str) := by kernel_rfl
      rw [← e]
      exact hmg0
    obtain ⟨fd, hb, hF⟩ := K15.facts (w := w) KX G hmg c
    exact ⟨K, fd, (K15.spLaw K), KX, hb, fun H a ns hl hS => ⟨a, ns, rfl, hS, Nat.le_trans hl (by decide), fun _ => rfl⟩, hF⟩
