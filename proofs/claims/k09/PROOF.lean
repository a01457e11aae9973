import PyProof.Rows.All
import Wide.All
import OpenK.AllK
import Wide.FinOn
import KE.KStateDown
import KE.KExcSuper
import Lean
import HandS.ForMost
import HandS.ForExc
import HandS.ExcInit
import HandS.ExcSuper
import HandS.ExcField
import HandS.ExcIs
import HandS.IsInst
import HandS.Defaults
import HandS.Replace
import HandS.ReplaceLit
import HandS.ReplaceDef
import HandS.Head0
import HandS.Head1
import HandS.Head2
import HandS.HeadEnd
import HandS.HeadHook1
import HandS.HeadHook2
import HandS.Wide
import HandS.WideBits
import HandS.ReplaceList
import HandS.IterVal
import KE.GoesMore
import HandS.More
import HandS.TupAny
import HandS.Ends
import PyProof.ReprRoads
import PyProof.CallFns
import HandS.TupLe
import HandS.StrMore
import PyProof.Rows.StrPadFill
import PyProof.Rows.StrPadWhole
import KE.KIsAll
import HandS.OwnEq
import HandS.HotCalls
import HandS.Codes
import KE.KOwnIter
import PyProof.InstEq
import HandS.OwnIter
import PyProof.Rows.SortShellAny
import HandS.Strs
import HandS.Conv
import HandS.Style
import HandS.Set
import HandS.SetBool
import HandS.SetKeys
import KE.KCallOwn
import HandS.Steps
import HandS.SetFor
import HandS.Text
import PyProof.EqKinds
import PySem.Challenge.RW_fablemill_k09_spoilt_packings
set_option Elab.async false
set_option linter.all false
set_option maxRecDepth 100000
set_option maxHeartbeats 4000000
/-! Own errors of the shape: class C(FableError): def __init__(self, f): super().__init__('..'); self.f = f -/
namespace Fx
open PySem PySem.W PySem.Calls PyProof.Rows PySem.HandSPX
/-- the text of such an __init__ -/
def xA (f : Str) (p1 p2 : Pos) : Arguments := { posonlyargs := [], args := [{ arg := "self", annotation := none, pos := p1 }, { arg := f, annotation := none, pos := p2 }], vararg := none, kwonlyargs := [], kw_defaults := [], kwarg := none, defaults := [] }
def xB (f m : Str) (q1 q2 q3 q4 q5 q6 q7 q8 q9 q10 : Pos) : List Stmt :=
  [.Expr (.Call (.Attribute (.Call (.Name "super" q1) [] [] q2) "__init__" q3) [.Constant (.str m) 0 q4] [] q5) q6,
   .Assign [.Attribute (.Name "self" q7) f q8] (.Name f q9) q10]
def xS (f : Str) : Scope := { kind := .function, names := [(PySem.Str.ofString "self", .local), (f, .local), (PySem.Str.ofString "__class__", .free), (PySem.Str.ofString "super", .globalImplicit)], isGenerator := false, isCoroutine := false, more := [] }
/-- a field's name that does not clash -/
structure FOk (f : Str) : Prop where
  ns : f ≠ "self"
  nc : f ≠ "__class__"
  nu : f ≠ "super"
  nd : (f == ("__debug__" : Str)) = false
theorem FOk.mk' {f : Str} (h1 : decide (f ≠ "self") = true) (h2 : decide (f ≠ "__class__") = true) (h3 : decide (f ≠ "super") = true) (h4 : (f == ("__debug__" : Str)) = false) : FOk f :=
  ⟨of_decide_eq_true h1, of_decide_eq_true h2, of_decide_eq_true h3, h4⟩
/-- what the written part says of the class at C, its name x, its field f -/
structure XC (K : Frag) (P : Program) (x f : Str) (C : Addr) : Prop where
  fo : FOk f
  cls : ∃ nm q N bs bm sn sub ab col dd k0 k1 k2 k3 k5, K.lookup C = some (excClassObj nm q C N bs bm true sn sub ab col dd k0 k1 k2 k3 k5 "ValueError.__new__") ∧ refsVE bm = true ∧ alongIn K "__init__" bm = some (some (.builtin "ValueError.__init__"))
  sa : findIn K (.ref C) "__setattr__" = some (some (.builtin "object.__setattr__"))
  ga : findIn K (.ref C) "__getattribute__" = some (some (.builtin "BaseException.__getattribute__"))
  gg : findIn K (.ref C) "__getattr__" = some none
  noF : findIn K (.ref C) f = some none
  kC : keepIn K (.ref C) = true
  exC : subIn K (.ref C) (.type "BaseException") = some true
  veC : subIn K (.ref C) (.type "ValueError") = some true
  tyC : typeIn K (.ref C) = some (.type "type")
  hdC : hasDictIn K C = true
  op : nsIn K cStatics "thirdparty.any" = some none
  init : ∃ (fI : Addr), findIn K (.ref C) "__init__" = some (some (.ref fI)) ∧ typeIn K (.ref fI) = some (.type "function") ∧
    ∃ (qual m : Str) (oc : Value) (od : Option Addr) (kV doc pm : Value) (an : Option Addr) (cda cc : Addr) (ct : Value) (osl : Array (Option Value)) (p1 p2 q1 q2 q3 q4 q5 q6 q7 q8 q9 q10 : Pos)
      (ccl : Value) (cdd : Option Addr) (vs : Array Value) (ccs : Array (Option Value)) (tf : Tok) (cl : Value) (cld : Option Addr) (csl : Array (Option Value)),
      K.lookup fI = some ⟨oc, od, .func (ksFn "__init__" qual (xA f p1 p2) (xB f m q1 q2 q3 q4 q5 q6 q7 q8 q9 q10) (xS f) .none kV doc pm an (.ref cda) ct cc), osl⟩ ∧ codeIn K (.ref cda) qual = true ∧
      K.lookup cda = some ⟨ccl, cdd, .fields vs, ccs⟩ ∧ vs[2]? = some (.str (P.main.file : Str) tf) ∧ K.lookup cc = some ⟨cl, cld, .cell (some (.ref C)), csl⟩ ∧ (q3.endLine == q5.line) = true
  bd : ∀ (fd : FuncData) (p1 p2 : Pos), fd.params = xA f p1 p2 → fd.defaults = .none → ∀ (u1 u2 : Value), bindArgs fd ⟨[u1, u2], []⟩ = pure [(("self" : Str), u1), (f, u2)]
  top : (P.main.scope.names.lookup ("super" : Str)).isSome = false
section
variable {f : Str} (F : FOk f)
include F
theorem look_self : (xS f).names.lookup ("self" : Str) = some .local := by simp [xS, List.lookup]
theorem look_f : (xS f).names.lookup f = some .local := by
  have h1 : (f == PySem.Str.ofString "self") = false := by simpa using F.ns
  simp [xS, List.lookup, h1]
theorem look_cls : (xS f).names.lookup ("__class__" : Str) = some .free := by
  have h1 : (("__class__" : Str) == f) = false := by simpa using (Ne.symm F.nc)
  have h2 : (("__class__" : Str) == PySem.Str.ofString "self") = false := by decide
  simp [xS, List.lookup, h1, h2]
theorem look_sup : (xS f).names.lookup ("super" : Str) = some .globalImplicit := by
  have h1 : (("super" : Str) == f) = false := by simpa using (Ne.symm F.nu)
  have h2 : (("super" : Str) == PySem.Str.ofString "self") = false := by decide
  have h3 : (("super" : Str) == PySem.Str.ofString "__class__") = false := by decide
  simp [xS, List.lookup, h1, h2, h3]
end
section
variable {prog : Program} {w : World} {A : Around} {E : Value → Shared → Prop} {h : Heap} {g : Array GenState} {d : Drawn} {t : Nat} {os : OsState}
variable {nm q : Str} {C N : Addr} {bs bm : List Value} {hdct : Bool} {sn : List Str} {sub : List Value} {ab : Bool} {col : Option Bool} {dd : Option Addr} {k0 k1 k2 k3 k5 : Option Value}
theorem boot_super : bootBuiltins ("super" : Str) = some (.type "super") := by first | boot_by_name | kernel_rfl
/-- super().__init__(..) called -/
theorem call_mw {u e t0 : Addr} {rest : List Value} {Q : Value → Shared → Prop}
    (hC : h.get? C = some (excClassObj nm q C N bs bm hdct sn sub ab col dd k0 k1 k2 k3 k5 "ValueError.__new__")) (he : h.get? e = some (excO C t0)) (hu : h.get? u = some (kxs_mw "ValueError.__init__" e)) (hrest : rest.length ≤ sizeLine)
    (hq : ∀ h' t1, (∀ b o, b ≠ e → h.get? b = some o → h'.get? b = some o) → h'.get? e = some (excO C t1) → Q .none ⟨h', g, d, t, os⟩) :
    wpAny (model prog w) A (call (.ref u) rest) Q E ⟨h, g, d, t, os⟩ := by
  refine wpAny_call (codeAny_of_tree ?_)
  show wpAny _ A.in1 (callAny (.ref u) ⟨rest, []⟩) _ _ _
  simp only [callAny]
  refine wpAny_bind (wpAny_load hu ?_)
  simp only [kxs_mw, show (Value.type "method-wrapper" == Value.type "method" || Value.type "method-wrapper" == Value.type "builtin_function_or_method" || Value.type "method-wrapper" == Value.type "method-wrapper") = true by decide, if_true]
  refine KFB.if_so (by decide) ?_
  refine wpAny_bind (ESX.check_bound F.excBase_ValueError hC he rfl ?_)
  refine wpAny_bind (wpAny_pure (wpAny_pure ?_))
  refine ⟨Code.quiet_builtin _ (by decide +kernel), codeAny_builtin F.excBase_ValueError.initEntry ?_⟩
  rw [Around.under_plainId F.excBase_ValueError.init.plain _]
  wp_walk
  refine hq _ h.objs.size (fun b o hb ho => ?_) ?_
  · rw [Heap.get?_update_other _ _ (Ne.symm hb)]
    exact Heap.get?_push_of_some _ ho
  · rw [Heap.get?_update_self _ (Heap.get?_push_of_some _ he) rfl]
    rfl
end
theorem he_sup {env : Env} {m : Str} {q1 q2 q3 q4 q5 : Pos} (hp : (q3.endLine == q5.line) = true) :
    eval (.Call (.Attribute (.Call (.Name "super" q1) [] [] q2) "__init__" q3) [.Constant (.str m) 0 q4] [] q5) env = (do
      let ov ← attributeBase (.Call (.Name "super" q1) [] [] q2) "__init__" env (eval (.Call (.Name "super" q1) [] [] q2) env)
      standAt q3.atName
      let (f, first) ← holding [ov] (getMethod ov "__init__" (do return (← importBound (.Call (.Name "super" q1) [] [] q2) env).getD true))
      callWith q5 f first (backTo q5 (starEach [.Constant (.str m) 0 q4] env)) []) := by
  rw [arm_eval_Call]
  unfold methodCall methodCallPos
  simp only [hp, Bool.or_true, if_true]
  rfl
/-- what __init__ leaves of a fresh exception at x -/
structure InitEnd (h h' : Heap) (x C dx t1 : Addr) (f : Str) (v : Value) : Prop where
  keep : ∀ b o, b ≠ x → h.get? b = some o → h'.get? b = some o
  obj : h'.get? x = some { cls := .ref C, dict := some dx, data := .fields #[.ref t1, .none, .none, .none, .bool false, .none] }
  dbig : h.objs.size ≤ dx
  dne : dx ≠ x
  ns : h'.Ns1 dx (fun y => if y = f then some v else none)
/-- a made exception -/
structure OwnMade (h h' : Heap) (e C d : Addr) (f : Str) (v : Value) : Prop where
  keep : ∀ b o, h.get? b = some o → h'.get? b = some o
  new : h.objs.size ≤ e
  obj : ∃ oe vs, h'.get? e = some oe ∧ oe.cls = .ref C ∧ oe.dict = some d ∧ oe.data = .fields vs ∧ vs[1]? = some .none
  dbig : h.objs.size ≤ d
  dne : d ≠ e
  ns : h'.Ns1 d (fun y => if y = f then some v else none)
section
variable {prog : Program} {w : World} {A : Around} {E : Value → Shared → Prop} {R : Result → Shared → Prop} {s : Shared} {K : Frag} {mg mb : Str → Option Value} {x0 f : Str} {C : Addr}
theorem one_size (v : Value) : [v].length ≤ sizeLine := by
  rw [sizeLine_eq]
  exact (by decide : 1 ≤ 16777216)
theorem fx_init (T : XC K prog x0 f C) {fI : Addr} (hfI : findIn K (.ref C) "__init__" = some (some (.ref fI))) {x t0 : Addr} {v : Value} (X : K.In s.heap) (G : s.heap.Ns mainGlobals mg) (hsu : mg "super" = none) (B : s.heap.Ns builtinsNs mb) (hsb : mb "super" = bootBuiltins "super")
    (hlim : s.heap.NoLimit) (hx : s.heap.get? x = some (excO C t0)) (hnx : K.lookup x = none) (hroom : A.depth < recursionLimit)
    (hq : ∀ h' tk dx t1, InitEnd s.heap h' x C dx t1 f v → R (.ok (.ret .none)) { s with heap := h', toks := tk }) :
    codeAny (model prog w) A (.call (.ref fI) ⟨[.ref x, v], []⟩) R s := by
  obtain ⟨fI', e1, htI, qual, m, oc, od, kV, doc, pm, an, cda, cc, ct, osl, p1, p2, q1, q2, q3, q4, q5, q6, q7, q8, q9, q10, ccl, cdd, vs, ccs, tf, cl, cld, csl, ho, hcd, hcode, hvs, hcell, hps⟩ := T.init
  rw [hfI] at e1
  cases e1
  obtain ⟨nm, q, N, bs, bm, sn, sub, ab, col, dd, k0, k1, k2, k3, k5, hC, hbm, hal⟩ := T.cls
  have hcl : clsIn K C = some { name := nm, bases := bs, mro := .ref C :: bm, ns := N, qualname := q, hasDict := true, slotNames := sn, subclasses := sub, abstract := ab, collection := col, hasDel := false } := by unfold clsIn; rw [hC] <;> rfl
  refine ks_codeAny_call_defAt (fd := ksFn "__init__" qual (xA f p1 p2) (xB f m q1 q2 q3 q4 q5 q6 q7 q8 q9 q10) (xS f) .none kV doc pm an (.ref cda) ct cc) (body := xB f m q1 q2 q3 q4 q5 q6 q7 q8 q9 q10) (binds := [("self", .ref x), (f, v)]) hroom (X _ _ ho) rfl hlim (codeRec_of X hcd) rfl
    (BindsTo.of_eq (T.bd _ p1 p2 rfl rfl _ _)) ?_ ?_ (fun h₁ hns k => ?_)
  · intro y hy
    simp only [xS, List.mem_cons, List.not_mem_nil, or_false] at hy
    rcases hy with rfl | rfl | rfl | rfl <;> simp
  · intro y hy
    simp only [List.mem_cons, List.not_mem_nil, or_false] at hy
    rcases hy with rfl | rfl
    · exact look_self T.fo
    · exact look_f T.fo
  · have X1 : K.In h₁ := X.keeps k
    have hx1 := k _ _ hx
    have hC1 := X1 _ _ hC
    refine ks_wpAt_execs_cons (ks_wpAt_Expr_any (ks_wpAt_MethodCall ?_ (he_sup hps)))
    refine ks_wpAt_super_base (look_sup T.fo) (look_cls T.fo) (by decide) rfl (X1 _ _ ho) rfl rfl rfl (X1 _ _ hcode) rfl hvs (by simp) T.top ?_
    refine ks_loadName_global rfl (look_sup T.fo) (loadGlobal_builtin (G.keeps k) hsu (B.keeps k) (hsb.trans boot_super) ⟨rfl, ?_⟩)
    refine wpAny_loadName_free rfl (look_cls T.fo) rfl ⟨_, X1 _ _ hcell, rfl⟩ ?_
    refine wpAny_loadName_local rfl (look_self T.fo) hns (v := .ref x) ?_ ?_
    · have h1 : (("self" : Str) == f) = false := by simpa using (Ne.symm T.fo.ns)
      simp [List.lookup, h1]
    refine ks_wpAny_isType_cls hC1 rfl ⟨rfl, ?_⟩
    have hsub : mroIn K C (.ref C) = some true := by
      unfold mroIn
      rw [hcl]
      simp
    refine ks_wpAny_call_super hC1 rfl hx1 rfl (fun c e => by cases e) (looks_mroIn X1 hsub) (fun h2 hso k2 => ?_)
    have X2 : K.In h2 := X1.keeps k2
    have hx2 := k2 _ _ hx1
    have hxC : x ≠ C := fun e => by
      rw [e, hC1] at hx1
      cases hx1
    have I2 : InstAt h2 x (excO C t0) C none := ⟨hx2, rfl, rfl, trivial⟩
    refine kxs_getMethod kxs_ValueError hso (looks_opaque X2 T.op) (l₀ := .ref C :: bm) ?_ (ESX.drop_own C bm) X2 hal (I2.type.andThen (looks_subIn X2 T.veC)) hxC (by decide) ?_
    · exact fun A Q E s k q => wpAny_bind ((looks_clsIn X2 hcl) A _ E s k (wpAny_pure q))
    have kp : ∀ b o, h2.get? b = some o → (h2.push (kxs_mw "ValueError.__init__" x)).get? b = some o := fun b o e => Heap.get?_push_of_some _ e
    have hu : (h2.push (kxs_mw "ValueError.__init__" x)).get? h2.objs.size = some (kxs_mw "ValueError.__init__" x) := Heap.get?_push_at rfl rfl
    refine kxs_callWith (i := "ValueError.__init__") (x := x) rfl (evalArgs_plain (spliced_cons (Constant_str (k := 0) (pos := q4) (spliced_nil ⟨hu, ?_⟩))))
    refine call_mw (kp _ _ (X2 _ _ hC)) (kp _ _ hx2) hu (one_size _) (fun h3 t1 k3 hx3 => ?_)
    have kk : ∀ b o, b ≠ x → h₁.get? b = some o → h3.get? b = some o := fun b o hb e => k3 b o hb (kp _ _ (k2 _ _ e))
    have X3 : K.In h3 := fun a o e => kk a o (fun z => by rw [z, hnx] at e; cases e) (X1 a o e)
    have nL : s.heap.objs.size ≠ x := Nat.ne_of_gt (Heap.lt_size hx)
    have hns3 : h3.Ns s.heap.objs.size (fun y => [(("self" : Str), Value.ref x), (f, v)].reverse.lookup y) := by
      obtain ⟨oL, es, ep, hL, r⟩ := hns
      exact ⟨oL, es, ep, kk _ _ nL hL, r⟩
    have hfs : (f == ("self" : Str)) = false := by simpa using T.fo.ns
    have hsf : (("self" : Str) == f) = false := by simpa using (Ne.symm T.fo.ns)
    show PySem.wpAt _ _ _ (execs _ _) _ _ _
    refine ks_wpAt_execs_cons (ks_wpAt_Assign_Attr (PySem.wpAt_of_wpAny ?_))
    refine wpAny_Name (wpAny_loadName_local rfl (look_f T.fo) hns3 (v := v) (by simp [List.lookup]) ?_) T.fo.nd
    refine wpAny_Name (wpAny_loadName_local rfl (look_self T.fo) hns3 (v := .ref x) (by simp [List.lookup, hsf]) ?_) (by decide)
    refine set_plain X3 (ox := excO C t1) (od := none) ⟨hx3, rfl, rfl, trivial⟩ T.sa ?_
    refine exc_osa X3 hx3 hcl (show refsVE (.ref C :: bm) = true from hbm) rfl T.noF (fun h4 tk4 dx k4 dn dne hx4 hn4 => ?_)
    show PySem.wpAt _ _ _ (execs _ _) _ _ _
    refine PySem.wpAt_of_wpAny (wpAny_execs_nil (hq h4 tk4 dx t1 ⟨fun b o hb e => k4 b o hb (kk b o hb (k b o e)), hx4, ?_, dne, hn4⟩))
    exact Nat.le_of_lt (Nat.lt_of_lt_of_le (show s.heap.objs.size < h3.objs.size from hns3.lt) dn)
theorem fx_made (T : XC K prog x0 f C) {v : Value} (X : K.In s.heap) (G : s.heap.Ns mainGlobals mg) (hsu : mg "super" = none) (B : s.heap.Ns builtinsNs mb) (hsb : mb "super" = bootBuiltins "super") (hlim : s.heap.NoLimit) (hroom : A.depth + 1 < recursionLimit)
    (hq : ∀ h' tk e d, OwnMade s.heap h' e C d f v → R (.ok (.ret (.ref e))) { s with heap := h', toks := tk }) :
    codeAny (model prog w) A (.call (.ref C) ⟨[v], []⟩) R s := by
  obtain ⟨fI, hfI, htI, _⟩ := T.init
  obtain ⟨nm, q, N, bs, bm, sn, sub, ab, col, dd, k0, k1, k2, k3, k5, hC, hbm, hal⟩ := T.cls
  obtain ⟨hp, g, dr, tk, os⟩ := s
  have k : ∀ b o, hp.get? b = some o → ((hp.push (kdv_tup [v])).push (excO C hp.objs.size)).get? b = some o := fun b o e => Heap.get?_push_of_some _ (Heap.get?_push_of_some _ e)
  have hget : ((hp.push (kdv_tup [v])).push (excO C hp.objs.size)).get? (hp.objs.size + 1) = some (excO C hp.objs.size) := by heap_get
  have hnx : K.lookup (hp.objs.size + 1) = none := by
    cases e : K.lookup (hp.objs.size + 1) with
    | none => rfl
    | some o =>
      have z : hp.get? (hp.objs.size + 1) = some o := X _ _ e
      exact absurd (Nat.lt_of_succ_lt (Heap.lt_size z)) (Nat.lt_irrefl _)
  refine call_own F.excBase_ValueError (fun X => refsVE_contains X bm hbm) (X _ _ hC) (looks_findIn X hfI) (fun self => bind_fn X self htI) (one_size v) ?_
  refine fx_init (s := ⟨(hp.push (kdv_tup [v])).push (excO C hp.objs.size), g, dr, tk, os⟩) T hfI (X.keeps k) (G.keeps k) hsu (B.keeps k) hsb (hlim.keeps k) hget hnx ?_ fun h' tk' dx t1 ⟨k', hx, dn, dne, hns⟩ => ?_
  · show A.depth + 1 < recursionLimit
    exact hroom
  · have old : ∀ b o, hp.get? b = some o → h'.get? b = some o := fun b o e => k' b o (Nat.ne_of_lt (Nat.lt_succ_of_lt (Heap.lt_size e))) (k b o e)
    have z : hp.objs.size + 1 + 1 ≤ dx := by
      first
        | (simpa only [Heap.size_push] using dn)
        | exact dn
        | (have q := dn; rw [Heap.size_push, Heap.size_push] at q; exact q)
    exact ⟨rfl, hq h' tk' (hp.objs.size + 1) dx ⟨old, Nat.le_succ _, ⟨_, _, hx, rfl, rfl, rfl, rfl⟩, Nat.le_trans (Nat.le_trans (Nat.le_succ _) (Nat.le_succ _)) z, dne, hns⟩⟩
end
end Fx
namespace Fx
open PySem PySem.Spec PyProof.Rows L2
theorem relO_fx {f : Str} {v : V} {v' : Value} (r : RelV v v') (y : Str) : RelO (List.lookup y [(f, v)]) (if y = f then some v' else none) := by
  by_cases hw : y = f
  · subst hw
    rw [if_pos rfl]
    have q : List.lookup y [(y, v)] = some v := by simp [List.lookup]
    rw [q]
    exact r
  · rw [if_neg hw]
    have qw : (y == f) = false := by simpa using hw
    have q2 : List.lookup y [(f, v)] = none := by simp [List.lookup, qw]
    rw [q2]
    trivial
section
variable {X : Cx} {C : Addr} {x0 f : Str}
/-- C(e) -/
def tMkFx (C : Addr) (f : Str) (ta : TA) : L2.St → Hp → XK → Prop := fun σ H Q => ta σ H fun vs H1 => ∃ v, vs = [v] ∧ ∀ d, H1 d = none → Q (.ref C) (some d) (upd H1 d (.xd [(f, v)]))
theorem pmk_fx {a : Expr} {ta : TA} {p pos : Pos} {k : Nat} (T : XC X.K X.prog x0 f C) (gC : X.mg x0 = some (.ref C)) (hsu : X.mg "super" = none) (hr : Room k X.A) (ha : PA X [a] ta) (hg : Gl X x0 := by rfl) (hdb : (x0 == ("__debug__" : Str)) = false := by decide)
    (he : starEach (a :: []) X.env = (false, eval a X.env) :: starEach [] X.env := by rfl) (hpl : (backTo pos (starEach [] X.env)).any (·.1) = false := by rfl) :
    PMk X (.Call (.Name x0 p) [a] [] pos) (tMkFx C f ta) := by
  intro pins s σ H Q I h
  refine wpAny_Call_Name_kw (ld_glob I hg gC ?_ hdb)
  refine PySem.W.callWith_K (h₀ := X.base) I.ok.mod.kin T.kC (thn (ha.run pos pins s σ H _ I h) fun us s1 hh => ?_) he hpl
  obtain ⟨vs, H1, I1, r1, v, ev, q1⟩ := hh
  subst ev
  refine ⟨I1.kIn, ?_⟩
  cases r1 with
  | cons rv rn =>
    rename_i v' us'
    cases rn
    show wpAny _ _ (call (.ref C) [v']) _ _ _
    have hlim := I1.nolimit
    obtain ⟨mb, hb1, hb2⟩ := I1.mod.blt
    have G := I1.mod.glob.keeps I1.bk
    have B := hb1.keeps I1.bk
    obtain ⟨hp, g, dr, tk, os⟩ := s1
    refine wpAny_call (fx_made T I1.kIn G hsu B (hb2 _ (by decide)) hlim (by have := hr.dp; omega) fun h' tk' e d M => ?_)
    show MkP X pins σ Q (.ref e) ⟨h', g, dr, tk', os⟩
    obtain ⟨oe, fv, hoe, hc, hd, hdat, h1⟩ := M.obj
    have hns := M.ns
    obtain ⟨G', g1, g2⟩ := restrict h' fun b => decide (b ≠ e)
    have gk : ∀ b, b ≠ e → G'.get? b = h'.get? b := fun b hb => g1 b (decide_eq_true hb)
    have ge : G'.get? e = none := g2 e (by simp)
    have old : ∀ b o, hp.get? b = some o → G'.get? b = some o := fun b o q => (gk b (Nat.ne_of_lt (Nat.lt_of_lt_of_le (Heap.lt_size q) M.new))).trans (M.keep b o q)
    have ob : ObjOk X.prog X.w (upd H1 d (.xd [(f, v)])) G' d (.xd [(f, v)]) :=
      ⟨_, hns.at (fun o q => (gk d M.dne).trans q), fun y => relO_fx rv y⟩
    have J : Inv X pins σ (upd H1 d (.xd [(f, v)])) ⟨G', g, dr, tk', os⟩ := I1.laid (t' := tk') old M.dbig ob
    refine ⟨e, oe, fv, ⟨G', g, dr, tk', os⟩, _, .ref C, some d, rfl, J, fun b o q => ?_, ge, hoe, ⟨hc, hd⟩, hdat, h1, ?_, rfl, I1.bare, raises_own T.exC T.tyC, q1 d (I1.hok.fresh M.dbig)⟩
    · by_cases hb : b = e
      · have q' : G'.get? b = some o := q
        rw [hb, ge] at q'; cases q'
      · exact (gk b hb).symm.trans q
    · rw [upd_ne (Ne.symm M.dne)]
      exact I1.hok.fresh M.new
/-- raise C(e) -/
def tRaiseFx (C : Addr) (f : Str) (W : WX) (ta : TA) : TS := fun _ σ H => tMkFx C f ta σ H fun cls d H' => W cls d σ H'
theorem ps_raiseFx {a : Expr} {ta : TA} {W : WX} {p pos pos2 : Pos} {k : Nat} (hc : X.calm = true) (T : XC X.K X.prog x0 f C) (gC : X.mg x0 = some (.ref C)) (hsu : X.mg "super" = none) (hr : Room k X.A) (tk : Takes X W) (ha : PA X [a] ta) (hg : Gl X x0 := by rfl) (hdb : (x0 == ("__debug__" : Str)) = false := by decide)
    (he : starEach (a :: []) X.env = (false, eval a X.env) :: starEach [] X.env := by rfl) (hpl : (backTo pos (starEach [] X.env)).any (·.1) = false := by rfl) :
    PS X (.Raise (some (.Call (.Name x0 p) [a] [] pos)) none pos2) (tRaiseFx C f W ta) := ps_raise hc tk (pmk_fx T gC hsu hr ha hg hdb he hpl)
/-- e.f, e the exception that the suite holds -/
theorem XC.xf (T : XC X.K X.prog x0 f C) : XfC X.K C := ⟨T.ga, T.gg, T.exC, T.hdC⟩
end
end Fx
namespace PySem.W
open PySem PySem.Spec PySem.Calls PyProof.Rows
section
variable {prog : Program} {w : World} {A : Around} {E : Value → Shared → Prop} {s : Shared} {K : Frag} {x D : Addr} {ox : Obj} {od : Option Obj}
theorem fx_findObj {C : Addr} {name : Str} {a g : Value} (hc : (clsIn K C).isSome = true) (ha : findIn K (.ref C) name = some (some a)) (hg : specialIn K a "__get__" = some (some g)) (ht : takesIn K a = some true) : findObj K C od name = some (.bind g a) := by
  obtain ⟨cd, hc⟩ := Option.isSome_iff_exists.mp hc
  unfold findObj
  rw [hc, Option.bind_some, ha, Option.bind_some]
  simp [hg, ht]
theorem fx_class {Q : Option Value → Shared → Prop} (hga : findIn K (.ref D) "__getattribute__" = some (some (.builtin "BaseException.__getattribute__"))) (hgt : findIn K (.ref D) "__getattr__" = some none) (hsub : subIn K (.ref D) (.type "BaseException") = some true)
    (hdct : hasDictIn K D = true) (ha : findIn K (.ref D) "__class__" = some (some (.builtin "object.__class__")))
    (hn : specialIn K (.builtin "object.__class__") "__get__" = some (some (.builtin "getset_descriptor.__get__"))) (htk : takesIn K (.builtin "object.__class__") = some true) (hm : mroIn K D (.type "object") = some true)
    (X : K.In s.heap) (I : InstAt s.heap x ox D od) (h : Q (some (.ref D)) { s with toks := s.toks + 1 }) : wpAny (model prog w) A (getAttr? (.ref x) "__class__") Q E s := by
  have hf : findObj K D od "__class__" = some (.bind (.builtin "getset_descriptor.__get__") (.builtin "object.__class__")) := fx_findObj (by obtain ⟨cd, hc, _⟩ := any_some hdct; rw [hc]; rfl) ha hn htk
  obtain ⟨hp, g, d, t, os⟩ := s
  have L0 := I.type (M := model prog w)
  have L1 := looks_findIn (M := model prog w) X hga
  have L2 := looks_findIn (M := model prog w) X hgt
  have L3 := looks_find (M := model prog w) X I hf
  have sub : Looks (model prog w) hp (isInstance (.ref x) (.type "BaseException")) true := L0.andThen (looks_subIn X hsub)
  have hx0 : (false && onTheHeap (Value.builtin "BaseException.__getattribute__")) = false := rfl
  have hx2 : (Value.builtin "BaseException.__getattribute__" == Value.builtin "object.__getattribute__") = false := by decide +kernel
  have hx1 : (onTheHeap (Value.ref D) && Value.builtin "BaseException.__getattribute__" == Value.builtin "object.__getattribute__") = false := by rw [hx2]; rfl
  unfold getAttr? getAttrBy? getAttrBy
  refine wpAny_bind (wpAny_mkText (wpAny_bind (wpAny_attempt (wpAny_holding (wpAny_bind (L0.at (wpAny_bind (L1.at ?_))))))))
  show wpAny _ _ (if (onTheHeap (Value.ref D) && Value.builtin "BaseException.__getattribute__" == Value.builtin "object.__getattribute__") = true then _ else _) _ _ _
  rw [hx1, if_neg Bool.false_ne_true]
  unfold getAttrByItsOwn hookBefore
  refine wpAny_bind ?_
  rw [if_pos (show onTheHeap (Value.ref D) = true from rfl)]
  refine L2.at ?_
  refine wpAny_bind (wpAny_attempt (wpAny_holding ?_))
  unfold callGetattribute
  rw [hx0, if_neg Bool.false_ne_true]
  unfold boundAndCalled
  rw [PySem.F.excAttr_ValueError.ga.bind (.ref x)]
  refine wpAny_bind (wpAny_pure ?_)
  show wpAny _ _ (call (.builtin "BaseException.__getattribute__") [.ref x, .str "__class__" t]) _ _ _
  refine wpAny_call (codeAny_call_builtin PySem.F.excAttr_ValueError.ga.plain PySem.F.entry_bexc_ga ?_)
  refine @check_slot (model prog w) _ _ ⟨hp, g, d, t + 1, os⟩ "BaseException.__getattribute__" "BaseException" "__getattribute__" (.ref x) [.str "__class__" t] [] _ (by decide +kernel) (by decide +kernel) sub (PySem.F.args_bexc_ga (.ref x) (.str "__class__" t)) ?_
  unfold Builtin.«object.__getattribute__»
  refine wpAny_bind (wpAny_of_eq (a := ((Value.ref x : Value), [Value.str "__class__" t])) (by first | rfl | (simp only [slotArgs]; rfl)) ?_)
  refine wpAny_bind (wpAny_pure (wpAny_bind (L0.at (wpAny_bind (L3.at ?_)))))
  show wpAny _ _ (holding [Value.builtin "object.__class__"] (call (.builtin "getset_descriptor.__get__") [.builtin "object.__class__", .ref x, .ref D]) >>= ret) _ _ _
  refine wpAny_bind (wpAny_holding (wpAny_call (class_get (s := ⟨hp, g, d, t + 1, os⟩) (ox := ox) (od := od) X I hm ?_)))
  refine wpAny_pure ?_
  show wpAny _ _ (handedOut (.ref D)) _ _ _
  rw [handedOut_of (v := .ref D) rfl]
  first
    | exact wpAny_pure (wpAny_pure h)
    | exact wpAny_pure h
    | exact wpAny_pure (wpAny_bind (wpAny_pure (wpAny_pure h)))
theorem fx_kitx (hga : findIn K (.ref D) "__getattribute__" = some (some (.builtin "BaseException.__getattribute__"))) (hgt : findIn K (.ref D) "__getattr__" = some none) (hsub : subIn K (.ref D) (.type "BaseException") = some true) (hdct : hasDictIn K D = true) (ha : findIn K (.ref D) "__class__" = some (some (.builtin "object.__class__")))
    (hn : specialIn K (.builtin "object.__class__") "__get__" = some (some (.builtin "getset_descriptor.__get__"))) (htk : takesIn K (.builtin "object.__class__") = some true) (hm : mroIn K D (.type "object") = some true) :
    KitX K (.ref x) (.ref D) (fun h => ∃ od, InstAt h x ox D od) where
  ty := fun _ _ _ ⟨_, I⟩ => I.type
  it := fun _ _ X _ => by
    obtain ⟨cdD, hcD, _⟩ := any_some hdct
    unfold clsIn at hcD
    split at hcD
    · rename_i c' d' cd' sl' ho
      intro A' Q' E' s' k q
      unfold isType loadHead
      exact wpAny_bind (wpAny_loadPart (k _ _ (X _ _ ho)) (wpAny_pure q))
    · cases hcD
  ne := fun h tp dd its n sl X htp => by
    obtain ⟨cdD, hcD, _⟩ := any_some hdct
    refine Bool.eq_false_iff.mpr fun q => ?_
    have e : D = tp := Value.ref.inj (beq_iff_eq.mp q)
    subst e
    unfold clsIn at hcD
    split at hcD
    · rename_i c' d' cd' sl' ho
      have z := (X _ _ ho).symm.trans htp
      cases z
    · cases hcD
  ca := fun X ⟨_, I⟩ k => fx_class hga hgt hsub hdct ha hn htk hm X I k
end
end PySem.W
namespace Fx
open PySem PySem.Spec PyProof.Rows L2
/-- isinstance(e, c), e the exception that the suite holds, with its dict -/
theorem call_isX {X : Cx} {a D dd : Addr} {oe : Obj} {pn : List (Addr × Obj)} {fs : List (Str × V)} (C : ExcC X.K D) (hz : Zc (.ref D) (some dd) oe) (hf : ∃ vs, oe.data = .fields vs) :
    CallR (X.suite a ((a, oe) :: pn)) (.builtin "isinstance") (fun xs H Q => H dd = some (.xd fs) ∧ rIsE X.K D a xs H Q) := by
  intro pins s σ H xs us Q I r h
  obtain ⟨hdd, c, cv, b, rfl, hcv, e, q⟩ := h
  cases r with
  | cons rx rr =>
    cases rr with
    | cons rt rr =>
      cases rr
      cases rx
      have ec := hcv _ rt
      subst ec
      obtain ⟨hget, _⟩ := I.pin (a, oe) (List.mem_append.mpr (.inl List.mem_cons_self))
      obtain ⟨vs, hv⟩ := hf
      have hx : ObjOk X.prog X.w H s.heap dd (.xd fs) := I.hok dd _ hdd
      obtain ⟨mA, ⟨od, es, ep, ho, hrest⟩, hr⟩ := hx
      have J : PySem.W.InstAt s.heap a oe D (some od) := ⟨hget, hz.1, by unfold PySem.W.notCls; rw [hv] <;> rfl, by rw [hz.2]; exact ho⟩
      exact PySem.W.kia_one (PySem.W.fx_kitx C.hg C.hk C.hs C.hd C.ha C.hn C.ht C.hm) I.kIn ⟨_, J⟩ e (fun z => nomatch z) fun tk => ⟨.bl b, H, I.kept (t' := tk) fun _ _ z => z, rfl, q⟩
end Fx
namespace Fx
open PySem PySem.Spec PyProof.Rows L2
def clsVal : V → Option Value
  | .ref C => some (.ref C)
  | .ty n => some (.type n)
  | _ => none
/-- isinstance(e, c) in an except suite, e the exception that it holds: its class cls, its dict d -/
def rIsY (K : PySem.W.Frag) (a : Addr) (cls : Value) (d : Option Addr) : List V → Hp → VK → Prop := fun xs H Q => ∃ c, xs = [.ref a, c] ∧ ∃ D, cls = .ref D ∧ ∃ dd, d = some dd ∧ (∃ fs, H dd = some (.xd fs)) ∧ ExcC K D ∧ ∃ cv, clsVal c = some cv ∧ ∃ b, PySem.W.kitOne K (.ref D) cv = some b ∧ Q (.bl b) H
theorem call_isY {X : Cx} {a : Addr} {oe : Obj} {cls : Value} {d : Option Addr} {pn : List (Addr × Obj)} (hz : Zc cls d oe) (hf : ∃ vs, oe.data = .fields vs) :
    CallR (X.suite a ((a, oe) :: pn)) (.builtin "isinstance") (rIsY X.K a cls d) := by
  intro pins s σ H xs us Q I r h
  obtain ⟨c, e1, D, e2, dd, e3, ⟨fs, hfs⟩, C, cv, hcv, b, hb, q⟩ := h
  subst e1 e2 e3
  refine call_isX (fs := fs) C hz hf pins s σ H _ us Q I r ⟨hfs, c, cv, b, rfl, fun u ru => ?_, hb, q⟩
  cases c with
  | ref C2 => cases hcv; exact ru
  | ty n => cases hcv; exact ru
  | _ => cases hcv
theorem XC.xfc {K : PySem.W.Frag} {P : Program} {x f : Str} {C : Addr} (T : XC K P x f C) : XfC K C := ⟨T.ga, T.gg, T.exC, T.hdC⟩
end Fx
/-! The head's facts: defs, errors' classes, any further facts as tests of the written part -/
namespace FxH
open PySem PySem.Spec PyProof.Rows L2 He
def asR (g : Addr → Option Obj) : Nat → List Addr
  | 0 => [mainGlobals, cStatics]
  | n + 1 => growD g (asR g n)
abbrev Fct := PySem.W.Frag → Bool
/-- an error's class: its name, its field, its __init__ -/
structure InD where
  x : Str
  f : Str
  qual : Str
  st : Stmt
abbrev FnX : Type := Option (Str × Str × Arguments × FuncBody × Scope × Addr × List Str × Value × Addr)
def fnXo (K : PySem.W.Frag) (x : Str) : FnX := match K.lookup (ma K (ga K x) "__init__") with
  | some ⟨_, _, .func fd, _⟩ => some (fd.name, fd.qualname, fd.params, fd.body, fd.scope, fd.globals, fd.closure.map (·.1), fd.defaults, fd.builtins)
  | _ => none
def InD.val (d : InD) : FnX := some ("__init__", d.qual, defArgs d.st, .stmts (defBody d.st), defScope d.st, mainGlobals, ["__class__"], .none, builtinsNs)
def clsB (K : PySem.W.Frag) (C : Addr) : Bool := match K.lookup C with
  | some ⟨.type "type", _, .cls cd, sl⟩ => (match cd.mro, sl.toList with
    | .ref C' :: bm, [_, _, _, _, some (.builtin n), _] => C' == C && (n == "ValueError.__new__" && (!cd.hasDel && (cd.hasDict && (PySem.HandSPX.refsVE bm && decide (PySem.W.alongIn K "__init__" bm = some (some (.builtin "ValueError.__init__")))))))
    | _, _ => false)
  | _ => false
theorem clsB_ok {K : PySem.W.Frag} {C : Addr} (q : clsB K C = true) : ∃ nm q N bs bm sn sub ab col dd k0 k1 k2 k3 k5, K.lookup C = some (excClassObj nm q C N bs bm true sn sub ab col dd k0 k1 k2 k3 k5 "ValueError.__new__") ∧ PySem.HandSPX.refsVE bm = true ∧ PySem.W.alongIn K "__init__" bm = some (some (.builtin "ValueError.__init__")) := by
  unfold clsB at q
  split at q
  · rename_i dd cd sl ho
    split at q
    · rename_i C' bm k0 k1 k2 k3 n k5 hm hs
      simp only [Bool.and_eq_true, beq_iff_eq, Bool.not_eq_true', decide_eq_true_eq] at q
      obtain ⟨rfl, rfl, hdel, hdct, ht, hal⟩ := q
      obtain ⟨nm, bs, mro, ns, qn, hd, sn, sub, ab, col, del⟩ := cd
      dsimp only at hm hdel hdct
      subst hm hdel hdct
      have hsl : sl = #[k0, k1, k2, k3, some (.builtin "ValueError.__new__"), k5] := by
        obtain ⟨l⟩ := sl
        simp only at hs
        rw [hs]
      subst hsl
      exact ⟨nm, qn, ns, bs, bm, sn, sub, ab, col, dd, k0, k1, k2, k3, k5, ho, ht, hal⟩
    · cases q
  · cases q
/-- the cell and the code of the __init__ -/
def iniB (K : PySem.W.Frag) (C fI : Addr) (qual file : Str) : Bool := match K.lookup fI with
  | some ⟨_, _, .func fd, _⟩ => (match fd.closure, fd.code with
    | [(_, cc)], .ref cda => PySem.W.codeIn K (.ref cda) qual && ((match K.lookup cda with
        | some ⟨_, _, .fields vs, _⟩ => (match (vs[2]? : Option Value) with
          | some (Value.str n _) => decide (n = file)
          | _ => false)
        | _ => false) && (match K.lookup cc with
        | some ⟨_, _, .cell (some (.ref D)), _⟩ => decide (D = C)
        | _ => false))
    | _, _ => false)
  | _ => false
def InD.ok (file : Str) (K : PySem.W.Frag) (d : InD) : Bool :=
  let C := ga K d.x
  let fI := ma K C "__init__"
  eqO (PySem.W.nsIn K mainGlobals d.x) (some (some (.ref C))) && (clsB K C && (eqO (PySem.W.findIn K (.ref C) "__setattr__") (some (some (.builtin "object.__setattr__"))) &&
  (eqO (PySem.W.findIn K (.ref C) "__getattribute__") (some (some (.builtin "BaseException.__getattribute__"))) && (eqO (PySem.W.findIn K (.ref C) "__getattr__") (some none) && (eqO (PySem.W.findIn K (.ref C) d.f) (some none) &&
  (PySem.W.keepIn K (.ref C) && (decide (PySem.W.subIn K (.ref C) (.type "BaseException") = some true) && (decide (PySem.W.subIn K (.ref C) (.type "ValueError") = some true) && (decide (PySem.W.typeIn K (.ref C) = some (.type "type")) &&
  (PySem.W.hasDictIn K C && (eqO (PySem.W.nsIn K cStatics "thirdparty.any") (some none) && (eqO (PySem.W.findIn K (.ref C) "__init__") (some (some (.ref fI))) && (decide (PySem.W.typeIn K (.ref fI) = some (.type "function")) && iniB K C fI d.qual file)))))))))))))
/-- what isinstance asks of an error's class -/
def excB (K : PySem.W.Frag) (x : Str) : Bool :=
  let C := ga K x
  eqO (PySem.W.findIn K (.ref C) "__getattribute__") (some (some (.builtin "BaseException.__getattribute__"))) && (eqO (PySem.W.findIn K (.ref C) "__getattr__") (some none) && (decide (PySem.W.subIn K (.ref C) (.type "BaseException") = some true) &&
  (PySem.W.hasDictIn K C && (eqO (PySem.W.findIn K (.ref C) "__class__") (some (some (.builtin "object.__class__"))) && (eqO (PySem.W.specialIn K (.builtin "object.__class__") "__get__") (some (some (.builtin "getset_descriptor.__get__"))) &&
  (decide (PySem.W.takesIn K (.builtin "object.__class__") = some true) && decide (PySem.W.mroIn K C (.type "object") = some true)))))))
theorem excB_ok {K : PySem.W.Frag} {x : Str} (h : excB K x = true) : ExcC K (ga K x) := by
  obtain ⟨h1, h⟩ := ba h
  obtain ⟨h2, h⟩ := ba h
  obtain ⟨h3, h⟩ := ba h
  obtain ⟨h4, h⟩ := ba h
  obtain ⟨h5, h⟩ := ba h
  obtain ⟨h6, h⟩ := ba h
  obtain ⟨h7, h8⟩ := ba h
  exact ⟨eqO_ok h1, eqO_ok h2, of_decide_eq_true h3, h4, eqO_ok h5, eqO_ok h6, of_decide_eq_true h7, of_decide_eq_true h8⟩
/-- the class's facts, from the hook -/
theorem InD.xc {P : Program} {K : PySem.W.Frag} {d : InD} {m : Str} {p1 p2 q1 q2 q3 q4 q5 q6 q7 q8 q9 q10 : Pos} (e : fnXo K d.x = d.val) (c : d.ok (P.main.file : Str) K = true) (fo : Fx.FOk d.f)
    (hA : defArgs d.st = Fx.xA d.f p1 p2) (hB : defBody d.st = Fx.xB d.f m q1 q2 q3 q4 q5 q6 q7 q8 q9 q10) (hS : defScope d.st = Fx.xS d.f) (hp : (q3.endLine == q5.line) = true)
    (bd : ∀ (fd : FuncData) (p1 p2 : Pos), fd.params = Fx.xA d.f p1 p2 → fd.defaults = .none → ∀ (u1 u2 : Value), bindArgs fd ⟨[u1, u2], []⟩ = pure [(("self" : Str), u1), (d.f, u2)])
    (top : (P.main.scope.names.lookup ("super" : Str)).isSome = false) : Fx.XC K P d.x d.f (ga K d.x) := by
  obtain ⟨c0, c⟩ := ba c
  obtain ⟨c1, c⟩ := ba c
  obtain ⟨c2, c⟩ := ba c
  obtain ⟨c3, c⟩ := ba c
  obtain ⟨c4, c⟩ := ba c
  obtain ⟨c5, c⟩ := ba c
  obtain ⟨c6, c⟩ := ba c
  obtain ⟨c7, c⟩ := ba c
  obtain ⟨c8, c⟩ := ba c
  obtain ⟨c9, c⟩ := ba c
  obtain ⟨c10, c⟩ := ba c
  obtain ⟨c11, c⟩ := ba c
  obtain ⟨c12, c⟩ := ba c
  obtain ⟨c13, c14⟩ := ba c
  refine ⟨fo, clsB_ok c1, eqO_ok c2, eqO_ok c3, eqO_ok c4, eqO_ok c5, c6, of_decide_eq_true c7, of_decide_eq_true c8, of_decide_eq_true c9, c10, eqO_ok c11, ⟨_, eqO_ok c12, of_decide_eq_true c13, ?_⟩, bd, top⟩
  unfold iniB at c14
  unfold fnXo at e
  cases q : K.lookup (ma K (ga K d.x) "__init__") with
  | none =>
    rw [q] at c14
    cases c14
  | some o =>
    obtain ⟨oc, od, dt, osl⟩ := o
    rw [q] at c14 e
    cases dt with
    | func fd =>
      obtain ⟨n1, n2, n3, n4, n5, n6, n7, n8, n9, n10, n11, n12, n13, n14, n15⟩ := fd
      have e2 : (some (n1, n2, n3, n4, n5, n6, n7.map (·.1), n8, n15) : FnX) = some (("__init__" : Str), d.qual, defArgs d.st, FuncBody.stmts (defBody d.st), defScope d.st, mainGlobals, [("__class__" : Str)], Value.none, builtinsNs) := e
      simp only [Option.some.injEq, Prod.mk.injEq] at e2
      obtain ⟨h1, h2, h3, h4, h5, h6, h7, h8, h9⟩ := e2
      subst h1 h2 h3 h4 h5 h6 h8 h9
      dsimp only at c14
      cases n7 with
      | nil => cases h7
      | cons a n7 =>
        cases n7 with
        | cons b n7 =>
          have z := congrArg List.length h7
          simp at z
        | nil =>
          obtain ⟨nm, cc⟩ := a
          have h7' : nm = ("__class__" : Str) := by
            have z := List.cons.inj h7
            exact z.1
          subst h7'
          cases n13 with
          | ref cda =>
            dsimp only at c14
            obtain ⟨d1, d2⟩ := ba c14
            obtain ⟨d3, d4⟩ := ba d2
            split at d3
            · rename_i ccl cdd vs ccs hl
              split at d3
              · rename_i n tf hvs
                have en : n = (P.main.file : Str) := of_decide_eq_true d3
                subst en
                split at d4
                · rename_i cl cld D csl hcell
                  have eD : D = ga K d.x := of_decide_eq_true d4
                  subst eD
                  refine ⟨d.qual, m, oc, od, n9, n10, n11, n12, cda, cc, n14, osl, p1, p2, q1, q2, q3, q4, q5, q6, q7, q8, q9, q10, ccl, cdd, vs, ccs, tf, cl, cld, csl, ?_, d1, hl, hvs, hcell, hp⟩
                  rw [hA, hB, hS]
                · cases d4
              · cases d3
            · cases d3
          | _ => cases c14
    | _ => cases c14
/-! ### the Hook -/
abbrev AlX : Type := Bool × List FnW × List FnX
def obsX (file : Str) (fa : List Fct) (fn : List DefD) (fi : List InD) (K : PySem.W.Frag) : AlX := (((fa.all fun f => f K) && (fn.all fun d => d.ok K)) && (fi.all fun d => d.ok file K), fn.map (fun d => fnW K d.at_), fi.map fun d => fnXo K d.x)
def valX (fn : List DefD) (fi : List InD) : AlX := (true, fn.map DefD.val, fi.map InD.val)
def SaysX (file : Str) (fa : List Fct) (fn : List DefD) (fi : List InD) (K : PySem.W.Frag) : Prop := obsX file fa fn fi K = valX fn fi
def obsXG (n : Nat) (file : Str) (fa : List Fct) (fn : List DefD) (fi : List InD) (g : Addr → Option Obj) : AlX := obsX file fa fn fi (frG g (asR g n))
def hookX (n : Nat) (file : Str) (fa : List Fct) (fn : List DefD) (fi : List InD) : PySem.W.Hook where
  α := AlX
  obs := fun s => obsXG n file fa fn fi s.heap.get?
  val := fun _ => valX fn fi
  says := fun _ h => ∃ K : PySem.W.Frag, K.In h ∧ SaysX file fa fn fi K
  of := fun _ _ e => ⟨_, frG_in, e⟩
  keeps := fun _ _ _ ⟨K, hK, c⟩ k => ⟨K, PySem.W.Frag.In.keeps hK k, c⟩
theorem obsXG_eq {n : Nat} {file : Str} {fa : List Fct} {fn : List DefD} {fi : List InD} {g : Addr → Option Obj} {s : Shared} (h : ∀ a, g a = s.heap.get? a) : obsXG n file fa fn fi g = (hookX n file fa fn fi).obs s := by
  have e : g = s.heap.get? := funext h
  rw [e] <;> rfl
section
variable {file : Str} {fa : List Fct} {fn : List DefD} {fi : List InD} {K : PySem.W.Frag}
theorem SaysX.fact (c : SaysX file fa fn fi K) (i : Nat) {f : Fct} (h : fa[i]? = some f := by rfl) : f K = true := by
  have c1 := (ba (ba (show (((fa.all fun f => f K) && (fn.all fun d => d.ok K)) && (fi.all fun d => d.ok file K)) = true from congrArg (fun z : AlX => z.1) c)).1).1
  exact List.all_eq_true.mp c1 f (List.mem_of_getElem? h)
theorem SaysX.def_ (c : SaysX file fa fn fi K) (i : Nat) {d : DefD} (h : fn[i]? = some d := by rfl) : ∃ fd, FunD K d.name d.qual d.params d.body d.scope (d.dvs K) (d.kws K) (fAd K d.at_) fd := by
  have c2 := (ba (ba (show (((fa.all fun f => f K) && (fn.all fun d => d.ok K)) && (fi.all fun d => d.ok file K)) = true from congrArg (fun z : AlX => z.1) c)).1).2
  have e : fn.map (fun d => fnW K d.at_) = fn.map DefD.val := congrArg (fun z : AlX => z.2.1) c
  have e2 : (fn.map fun d => fnW K d.at_)[i]? = (fn.map DefD.val)[i]? := by rw [e]
  rw [List.getElem?_map, List.getElem?_map, h] at e2
  exact DefD.funD (Option.some.inj e2) (List.all_eq_true.mp c2 d (List.mem_of_getElem? h))
theorem SaysX.ini (c : SaysX file fa fn fi K) (i : Nat) {d : InD} (h : fi[i]? = some d := by rfl) : fnXo K d.x = d.val ∧ d.ok file K = true := by
  have c2 := (ba (show (((fa.all fun f => f K) && (fn.all fun d => d.ok K)) && (fi.all fun d => d.ok file K)) = true from congrArg (fun z : AlX => z.1) c)).2
  have e : fi.map (fun d => fnXo K d.x) = fi.map InD.val := congrArg (fun z : AlX => z.2.2) c
  have e2 : (fi.map fun d => fnXo K d.x)[i]? = (fi.map InD.val)[i]? := by rw [e]
  rw [List.getElem?_map, List.getElem?_map, h] at e2
  exact ⟨Option.some.inj e2, List.all_eq_true.mp c2 d (List.mem_of_getElem? h)⟩
end
end FxH
/-! Short words over the layer: a def by its name (Src), a def that keeps its promise (Cal), constants (Cst) -/
namespace Fx
open PySem PySem.Spec PyProof.Rows L2
/-- a def of the text as it stands behind the top -/
def Src (K : PySem.W.Frag) (mg : Str → Option Value) (x : Str) (st : Stmt) : Prop := ∃ f fd, mg x = some (.ref f) ∧ FunD K x x (defArgs st) (defBody st) (defScope st) [] [] f fd
/-- a def that keeps its promise -/
structure Cal (P : Program) (w : World) (K : PySem.W.Frag) (mg : Str → Option Value) (base : Heap) (CX : CXT) (k : Nat) (x : Str) (ps : List Str) (sp : Sp) : Prop where
  ex : ∃ f fd, mg x = some (.ref f) ∧ PySem.W.keepIn K (.ref f) = true ∧ Binds K fd ps [] ∧ FnOk P w K mg base CX k f fd ps sp
/-- a constant of the module -/
def Cst (mg : Str → Option Value) (x : Str) (v : V) : Prop := ∃ u, mg x = some u ∧ RelV v u
section
variable {P : Program} {w : World} {K : PySem.W.Frag} {mg : Str → Option Value} {base : Heap} {x : Str} {st : Stmt} {N ps : List Str} {k : Nat} {sp : Sp}
abbrev BindP (x : Str) (st : Stmt) (ps : List Str) : Prop := ∀ (kV doc pm : Value) (an : Option Addr) (cdv ct : Value) (us : List Value), us.length = ps.length → bindArgs (PySem.W.fnOf x x (defArgs st) (defBody st) (defScope st) .none kV doc pm an cdv ct) ⟨us, []⟩ = pure (ps.zip us)
/-- a def that lets nothing out -/
theorem Src.cal (S : Src K mg x st) (sc : FnScope N ps (defScope st)) (bn : BindP x st ps) (len : ∀ vs H Q E, sp vs H Q E → vs.length = ps.length)
    (hbody : ∀ (f : Addr) (cdv : Value) (A : Around) (outer : List Env) (s : Shared) (H : Hp) (vs : List V) (Q : VK) (E : XK), Room k (A.deeper (envOfC x (defScope st) s.heap.objs.size f cdv)) → sp vs H Q E →
      ∃ t, PSs (cxOf CX0 P w K mg base N x (defScope st) f cdv A outer s H E).nox (defBody st) t ∧ t { nx := fun _ H' => Q .non H', rt := Q } (start N vs) H) : Cal P w K mg base CX0 (k + 1) x ps sp := by
  obtain ⟨f, fd, g, F⟩ := S
  refine ⟨f, fd, g, F.kp, F.bindsN bn, F.ok sc len fun cdv A outer s H vs Q E hr hsp => ?_⟩
  obtain ⟨t, h, q⟩ := hbody f cdv A outer s H vs Q E hr hsp
  exact ⟨t, h.nox, q⟩
/-- a def that may raise -/
theorem Src.calX (S : Src K mg x st) (sc : FnScope N ps (defScope st)) (bn : BindP x st ps) (len : ∀ vs H Q E, sp vs H Q E → vs.length = ps.length)
    (hbody : ∀ (f : Addr) (cdv : Value) (A : Around) (outer : List Env) (s : Shared) (H : Hp) (vs : List V) (Q : VK) (E : XK), Room k (A.deeper (envOfC x (defScope st) s.heap.objs.size f cdv)) → sp vs H Q E →
      ∃ t, PSs (cxOf (L2.CX P w) P w K mg base N x (defScope st) f cdv A outer s H E) (defBody st) t ∧ t { nx := fun _ H' => Q .non H', rt := Q } (start N vs) H) : Cal P w K mg base (L2.CX P w) (k + 1) x ps sp := by
  obtain ⟨f, fd, g, F⟩ := S
  exact ⟨f, fd, g, F.kp, F.bindsN bn, F.ok sc len fun cdv A outer s H vs Q E hr hsp => hbody f cdv A outer s H vs Q E hr hsp⟩
end
/-! ### arguments without a star -/
def nostar : Expr → Bool
  | .Starred _ _ => false
  | _ => true
theorem star_ok {e : Expr} {es : List Expr} {env : Env} (h : nostar e = true) : starEach (e :: es) env = (false, eval e env) :: starEach es env := by
  cases e <;> first | rfl | cases h
theorem back_ok {pos : Pos} {env : Env} : ∀ {es : List Expr}, es.all nostar = true → (backTo pos (starEach es env)).any (·.1) = false
  | [], _ => rfl
  | e :: es, h => by
    simp only [List.all_cons, Bool.and_eq_true] at h
    rw [star_ok h.1]
    show (false || (backTo pos (starEach es env)).any (·.1)) = false
    rw [back_ok h.2]
    rfl
theorem pa_c {X : Cx} {e : Expr} {es : List Expr} {te : TE} {t : TA} (ha : PE X e te) (hr : PA X es t) (hs : nostar e = true := by rfl) : PA X (e :: es) (tCons te t) := pa_cons ha hr (star_ok hs)
section
variable {X : Cx} {x : Str} {p pos : Pos} {e : Expr} {es : List Expr} {t : TA} {id T : String} {r : List V → Hp → VK → Prop}
theorem pe_cB (hc : CallR X (.builtin id) r) (hm : X.mg x = none) (hv : bootBuiltins x = some (.builtin id)) (ha : PA X (e :: es) t) (hg : Gl X x := by rfl) (hn : x ≠ "__name__" := by decide) (hdb : (x == ("__debug__" : Str)) = false := by decide)
    (hs : (e :: es).all nostar = true := by rfl) : PE X (.Call (.Name x p) (e :: es) [] pos) (tCB r t) := by
  simp only [List.all_cons, Bool.and_eq_true] at hs
  exact pe_callB hc hg hm hv ha hn hdb (star_ok hs.1) (back_ok hs.2)
theorem pe_cTy (hc : CallR X (.type T) r) (hm : X.mg x = none) (hv : bootBuiltins x = some (.type T)) (ha : PA X (e :: es) t) (hg : Gl X x := by rfl) (hn : x ≠ "__name__" := by decide) (hdb : (x == ("__debug__" : Str)) = false := by decide)
    (hs : (e :: es).all nostar = true := by rfl) : PE X (.Call (.Name x p) (e :: es) [] pos) (tCB r t) := by
  simp only [List.all_cons, Bool.and_eq_true] at hs
  exact pe_callTy hc hg hm hv ha hn hdb (star_ok hs.1) (back_ok hs.2)
end
section
variable {X : Cx} {x : Str} {ps : List Str} {sp : Sp} {k : Nat} {CX : CXT} {E : XK} {e : Expr} {es : List Expr} {t : TA} {p pos : Pos}
/-- f(e, ..) -/
theorem pe_cal (C : Cal X.prog X.w X.K X.mg X.base CX k x ps sp) (hr : Room k X.A) (hx : Passes CX X E) (ha : PA X (e :: es) t) (hg : Gl X x := by rfl) (hdb : (x == ("__debug__" : Str)) = false := by decide)
    (hs : (e :: es).all nostar = true := by rfl) : PE X (.Call (.Name x p) (e :: es) [] pos) (tCall sp [] E t) := by
  obtain ⟨f, fd, g, kp, b, F⟩ := C.ex
  simp only [List.all_cons, Bool.and_eq_true] at hs
  exact pe_call F hr hg g kp b .nil hx ha hdb (star_ok hs.1) (back_ok hs.2)
theorem pe_cal0 (C : Cal X.prog X.w X.K X.mg X.base CX k x ps sp) (hr : Room k X.A) (hx : Passes CX X E) (hg : Gl X x := by rfl) (hdb : (x == ("__debug__" : Str)) = false := by decide) : PE X (.Call (.Name x p) [] [] pos) (tCall sp [] E tNil) := by
  obtain ⟨f, fd, g, kp, b, F⟩ := C.ex
  exact pe_call0 F hr hg g kp b .nil hx hdb
/-- f(e, ..) of a def that may raise, in a try's body -/
theorem pe_calS {W : WX} (C : Cal X.prog X.w X.K X.mg X.base (L2.CX X.prog X.w) k x ps sp) (hr : Room k X.A) (tk : Takes X W) (ha : PA X (e :: es) t) (hg : Gl X x := by rfl) (hdb : (x == ("__debug__" : Str)) = false := by decide)
    (hs : (e :: es).all nostar = true := by rfl) : PE X (.Call (.Name x p) (e :: es) [] pos) (tCallS sp (WE W) t) := by
  obtain ⟨f, fd, g, kp, b, F⟩ := C.ex
  simp only [List.all_cons, Bool.and_eq_true] at hs
  exact pe_callS F hr hg g kp b (fun σ => passAt tk σ) ha hdb (star_ok hs.1) (back_ok hs.2)
theorem pe_cst {v : V} (h : Cst X.mg x v) (hg : Gl X x := by rfl) (hdb : (x == ("__debug__" : Str)) = false := by decide) : PE X (.Name x p) (tC v) := by
  obtain ⟨u, hm, r⟩ := h
  exact pe_glob hg hm r hdb
end
end Fx
/-! The law's bag of numbers -/
namespace Fx
open PySem PySem.Spec PyProof.Rows L2
def bagKV (c : Addr) (a r m n : Int) : List (Key × V) := [(.inr "cells", .ref c), (.inr "at", .int a), (.inr "rest", .int r), (.inr "mixed", .int m), (.inr "count", .int n)]
section
variable {c : Addr} {a r m n : Int} {v : Int}
theorem bag_cells : valV (bagKV c a r m n) (.inr "cells") = some (.ref c) := rfl
theorem bag_at : valV (bagKV c a r m n) (.inr "at") = some (.int a) := rfl
theorem bag_rest : valV (bagKV c a r m n) (.inr "rest") = some (.int r) := rfl
theorem bag_mixed : valV (bagKV c a r m n) (.inr "mixed") = some (.int m) := rfl
theorem bag_count : valV (bagKV c a r m n) (.inr "count") = some (.int n) := rfl
theorem bag_atP : putK (bagKV c a r m n) (.inr "at") (.int v) = bagKV c v r m n := rfl
theorem bag_restP : putK (bagKV c a r m n) (.inr "rest") (.int v) = bagKV c a v m n := rfl
theorem bag_mixedP : putK (bagKV c a r m n) (.inr "mixed") (.int v) = bagKV c a r v n := rfl
theorem bag_countP : putK (bagKV c a r m n) (.inr "count") (.int v) = bagKV c a r m v := rfl
end
/-- the bag at b, its numbers at c -/
def BagC (H : Hp) (b c : Addr) : Prop := ∃ (ns : List Int) (a r m n : Int), H b = some (.dK (bagKV c a r m n)) ∧ H c = some (.lst (ns.map V.int)) ∧ 0 ≤ a
def Bag (H : Hp) (b : Addr) : Prop := ∃ c : Addr, BagC H b c
/-- all that was tracked but the bag is as it was; the bag is a bag -/
structure Kp (b : Addr) (H H' : Hp) : Prop where
  keep : ∀ a o, a ≠ b → H a = some o → H' a = some o
  bag : Bag H' b
  cel : ∀ c, BagC H b c → BagC H' b c
section
variable {b c D : Addr} {H H1 H2 : Hp}
theorem Bag.some (B : Bag H b) : ∃ kvs, H b = some (.dK kvs) := by
  obtain ⟨c, ns, a, r, m, n, h, _⟩ := B
  exact ⟨_, h⟩
theorem BagC.same (B : BagC H b c) (s : Same H H1) : BagC H1 b c := by
  obtain ⟨ns, a, r, m, n, h1, h2, h3⟩ := B
  exact ⟨ns, a, r, m, n, s _ _ h1, s _ _ h2, h3⟩
theorem Kp.refl (B : Bag H b) : Kp b H H := ⟨fun _ _ _ h => h, B, fun _ h => h⟩
theorem Kp.trans (x : Kp b H H1) (y : Kp b H1 H2) : Kp b H H2 := ⟨fun a o n h => y.keep a o n (x.keep a o n h), y.bag, fun c h => y.cel c (x.cel c h)⟩
theorem Bag.same (B : Bag H b) (s : Same H H1) : Bag H1 b := by
  obtain ⟨c, h⟩ := B
  exact ⟨c, h.same s⟩
theorem Kp.same (B : Bag H b) (s : Same H H1) : Kp b H H1 := ⟨fun a o _ h => s a o h, B.same s, fun c h => h.same s⟩
theorem Kp.then (x : Kp b H H1) (s : Same H1 H2) : Kp b H H2 := x.trans (Kp.same x.bag s)
theorem BagC.put {o : HO} (B : BagC H b c) (hb : b ≠ D) (hc : c ≠ D) : BagC (upd H D o) b c := by
  obtain ⟨ns, a, r, m, n, h1, h2, h3⟩ := B
  exact ⟨ns, a, r, m, n, by rw [upd_ne hb]; exact h1, by rw [upd_ne hc]; exact h2, h3⟩
/-- what was made since then may be changed -/
theorem Kp.put {o : HO} (B : Bag H b) (x : Kp b H H1) (hD : H D = Option.none) : Kp b H (upd H1 D o) := by
  have g : ∀ c, BagC H b c → BagC (upd H1 D o) b c := by
    intro c Bc
    have B1 := x.cel c Bc
    obtain ⟨ns, a, r, m, n, h1, h2, h3⟩ := Bc
    exact B1.put (ne_of_none h1 hD) (ne_of_none h2 hD)
  obtain ⟨c, Bc⟩ := B
  exact ⟨fun a o' n h => by rw [upd_ne (ne_of_none h hD)]; exact x.keep a o' n h, ⟨c, g c Bc⟩, g⟩
theorem Kp.none_ne (x : Kp b H H1) (B : Bag H b) (hD : H D = Option.none) : D ≠ b := fun e => by
  obtain ⟨kvs, h⟩ := B.some
  rw [← e, hD] at h
  cases h
theorem Bag.lst (B : Bag H b) {a : Addr} {xs : List V} (h : H a = Option.some (.lst xs)) : a ≠ b := by
  obtain ⟨c, ns, x, r, m, n, h1, _⟩ := B
  exact ne_of h h1 (by intro z; cases z)
theorem Bag.tup (B : Bag H b) {a : Addr} {xs : List V} (h : H a = Option.some (.tup xs)) : a ≠ b := by
  obtain ⟨c, ns, x, r, m, n, h1, _⟩ := B
  exact ne_of h h1 (by intro z; cases z)
theorem Kp.lst (x : Kp b H H1) (B : Bag H b) {a : Addr} {xs : List V} (h : H a = Option.some (.lst xs)) : H1 a = Option.some (.lst xs) := x.keep _ _ (B.lst h) h
theorem Kp.tup (x : Kp b H H1) (B : Bag H b) {a : Addr} {xs : List V} (h : H a = Option.some (.tup xs)) : H1 a = Option.some (.tup xs) := x.keep _ _ (B.tup h) h
theorem Kp.free (x : Kp b H H1) {p : Addr} (h : H1 p = Option.none) : H p = Option.none := by
  cases q : H p with
  | none => rfl
  | some o =>
    by_cases e : p = b
    · obtain ⟨kvs, hb⟩ := x.bag.some
      rw [e, hb] at h
      cases h
    · rw [x.keep p o e q] at h
      cases h
theorem same_new {H : Hp} {p : Addr} {o : HO} (h : H p = Option.none) : Same H (upd H p o) := fun b x e => by
  rw [upd_ne (ne_of_none e h)]
  exact e
end
/-- _law_pick(bag, many) -/
def spPick : Sp := fun vs H Q _ => ∃ (b : Addr) (many : Int), vs = [.ref b, .int many] ∧ Bag H b ∧ 0 < many ∧ many < 1073741824 ∧ ∀ (n : Int) (H' : Hp), 0 ≤ n → n < many → Kp b H H' → Q (.int n) H'
/-- _law_bag(script) -/
def spBag (K : PySem.W.Frag) : Sp := fun vs H Q _ => ∃ (a : Addr) (ns : List Int), vs = [.ref a] ∧ SqL K H a (ns.map V.int) ∧ ns.length ≤ 1000 ∧ ∀ (b : Addr) (H' : Hp), Same H H' → H b = none → Bag H' b → Q (.ref b) H'
end Fx
/-! Readings evaluated by simp -/
namespace Fx
open PySem PySem.Spec PyProof.Rows L2
section
variable {H H' : Hp} {a b p : Addr} {z : Str} {i : Int} {r : Option V} {v : V} {kvs : List (Key × V)} {o u : HO}
theorem dget_s (hb : H b = some (.dK kvs)) : DGet H b (.str z) r ↔ r = valV kvs (.inr z) := by
  constructor
  · rintro (⟨kvs', k, hr, e, rfl⟩ | ⟨kvs', k, b', hr, e, _⟩)
    · rcases hr with hr | ⟨o, hr⟩
      · rw [hb] at hr
        cases hr
        cases k with
        | inl i => cases e
        | inr y => cases e; rfl
      · rw [hb] at hr
        cases hr
    · cases e
  · rintro rfl
    exact DGet.k (k := Sum.inr z) hb
theorem dget_i (hb : H b = some (.dK kvs)) : DGet H b (.int i) r ↔ r = valV kvs (.inl i) := by
  constructor
  · rintro (⟨kvs', k, hr, e, rfl⟩ | ⟨kvs', k, b', hr, e, _⟩)
    · rcases hr with hr | ⟨o, hr⟩
      · rw [hb] at hr
        cases hr
        cases k with
        | inl i => cases e; rfl
        | inr y => cases e
      · rw [hb] at hr
        cases hr
    · cases e
  · rintro rfl
    exact DGet.k (k := Sum.inl i) hb
theorem dput_s (hb : H b = some (.dK kvs)) (hl : kvs.length < 1000) : DPut H b (.str z) v H' ↔ H' = upd H b (.dK (putK kvs (.inr z) v)) := by
  constructor
  · rintro (⟨kvs', k, hr, e, _, rfl⟩ | ⟨kvs', k, b', hr, e, _⟩)
    · rw [hb] at hr
      cases hr
      cases k with
      | inl i => cases e
      | inr y => cases e; rfl
    · cases e
  · rintro rfl
    exact DPut.k (k := Sum.inr z) hb (Nat.lt_of_lt_of_le hl (by decide))
theorem dget_su : DGet (upd H b (.dK kvs)) b (.str z) r ↔ r = valV kvs (.inr z) := dget_s upd_same
theorem dput_su (hl : kvs.length < 1000) : DPut (upd H b (.dK kvs)) b (.str z) v H' ↔ H' = upd H b (.dK (putK kvs (.inr z) v)) := by
  rw [dput_s upd_same hl, upd_upd]
theorem bag_len {c : Addr} {a r m n : Int} : (bagKV c a r m n).length < 1000 := show 5 < 1000 by decide
theorem ite_dec {p : Prop} [Decidable p] {A B : Prop} : (if decide p = true then A else B) ↔ (if p then A else B) := by simp
theorem ite_ndec {p : Prop} [Decidable p] {A B : Prop} : (if (!decide p) = true then A else B) ↔ (if p then B else A) := by
  by_cases h : p <;> simp [h]
end
end Fx
namespace Fx
open PySem PySem.Spec PyProof.Rows L2
/-- one statement first; the rest stays folded -/
theorem seqI {t u : TS} {D : Ends} {σ : L2.St} {H : Hp} (h : ∀ K : L2.St → Hp → Prop, (∀ σ H, u D σ H → K σ H) → t { D with nx := K } σ H) : tSeq t u D σ H := h (u D) fun _ _ x => x
theorem ifI {tc : TT} {t u : TS} {D : Ends} {σ : L2.St} {H : Hp} (h : ∀ A B : Hp → Prop, (∀ H1, t D σ H1 → A H1) → (∀ H1, u D σ H1 → B H1) → tc σ H (fun b H1 => if b = true then A H1 else B H1)) : tIfS tc t u D σ H := h (t D σ) (u D σ) (fun _ x => x) (fun _ x => x)
theorem while_i {c : TT} {tb : TS} {D : Ends} {σ : L2.St} {H : Hp} (Pv : L2.St → Hp → Prop) (μ : L2.St → Hp → Nat) (h0 : Pv σ H)
    (hs : ∀ σ H, Pv σ H → ∀ A B : Hp → Prop, (∀ H1, tb { D with nx := fun σ' H' => Pv σ' H' ∧ μ σ' H' < μ σ H, ct := fun σ' H' => Pv σ' H' ∧ μ σ' H' < μ σ H, bk := D.nx } σ H1 → A H1) → (∀ H1, D.nx σ H1 → B H1) → c σ H fun b H1 => if b = true then A H1 else B H1) : tWhile c tb D σ H := by
  refine ⟨fun m σ H => m = μ σ H ∧ Pv σ H, ⟨_, rfl, h0⟩, ?_⟩
  rintro m σ H ⟨rfl, p⟩
  exact hs σ H p _ _ (fun H1 t => ⟨fun σ' H' => Pv σ' H' ∧ μ σ' H' < μ σ H, fun σ' H' ⟨a, b⟩ => ⟨μ σ' H', b, rfl, a⟩, t⟩) (fun H1 x => x)
theorem forI {wi : TI} {g : TG} {tb : TS} {D : Ends} {σ : L2.St} {H : Hp} (h : ∀ R : It → Hp → Prop, (∀ J H1, (∃ W : Nat → Nat → L2.St → Hp → Prop, (∃ m, W 0 m σ H1) ∧ ∀ i m σ H, W i m σ H →
    (J.stop i H ∧ D.nx σ H) ∨ (J.go i H ∧ ∃ N : L2.St → Hp → Prop, (∀ σ' H', N σ' H' → ∃ m', m' < m ∧ W (i + 1) m' σ' H') ∧ ∀ x H', J.yld i H x H' → g x σ H' fun σ2 H2 => tb { D with nx := N, ct := N, bk := D.nx } σ2 H2)) → R J H1) → wi σ H R) : tFor wi g tb D σ H := h _ fun _ _ x => x
theorem ite_i {c A B : Prop} [Decidable c] (h1 : c → A) (h2 : ¬ c → B) : if c then A else B := ite2 h1 h2
theorem sz {n : Nat} (h : n ≤ 100000) : n ≤ sizeLine := Nat.le_trans h (by decide)
end Fx
namespace Fx
open PySem PySem.Spec PyProof.Rows L2
theorem cx_K {CX : CXT} {P : Program} {w : World} {K : PySem.W.Frag} {mg : Str → Option Value} {base : Heap} {N : List Str} {qual : Str} {scope : Scope} {f : Addr} {cd : Value} {A : Around} {outer : List Env} {s : Shared} {H : Hp} {E : XK} :
    (cxOf CX P w K mg base N qual scope f cd A outer s H E).K = K := rfl
end Fx
/-! Rules whose readings ask the tracked heap alone -/
namespace Fx
open PySem PySem.Spec PyProof.Rows L2
section
variable {X : Cx}
theorem IxR.imp {r r' : R2} (h : IxR X r) (i : ∀ x y H Q, r' x y H Q → r x y H Q) : IxR X r' := by
  intro value slice pins s σ H x y v u Q I rx ry q e
  exact h value slice pins s σ H x y v u Q I rx ry (i _ _ _ _ q) e
theorem CallR.imp {f : Value} {r r' : List V → Hp → VK → Prop} (h : CallR X f r) (i : ∀ xs H Q, r' xs H Q → r xs H Q) : CallR X f r' := fun pins s σ H xs us Q I rx q => h pins s σ H xs us Q I rx (i _ _ _ q)
theorem SlR.imp {r r' : V → Option Int → Option Int → Hp → VK → Prop} (h : SlR X r) (i : ∀ x lo hi H Q, r' x lo hi H Q → r x lo hi H Q) : SlR X r' := by
  intro pins s σ H x v vl vu lo hi sl Q I rx hs pl pu q
  exact h pins s σ H x v vl vu lo hi sl Q I rx hs pl pu (i _ _ _ _ _ q)
/-- xs[i], a tracked list | tuple -/
def rIxLt : R2 := fun x y H Q => ∃ p i xs, x = .ref p ∧ y = .int i ∧ H p = some (.lst xs) ∧ ∃ v, atI xs i = some v ∧ Q v H
def rIxTt : R2 := fun x y H Q => ∃ p i xs, x = .ref p ∧ y = .int i ∧ H p = some (.tup xs) ∧ ∃ v, atI xs i = some v ∧ Q v H
theorem ix_L : IxR X rIxLt := IxR.imp ix_list fun x y H Q ⟨p, i, xs, e1, e2, h, v, a, q⟩ => ⟨p, xs, i, v, e1, e2, .inl (.inl h), a, q⟩
theorem ix_T : IxR X rIxTt := IxR.imp ix_tup fun x y H Q ⟨p, i, xs, e1, e2, h, v, a, q⟩ => ⟨p, xs, i, v, e1, e2, .inl (.inl h), a, q⟩
/-- s[i] -/
def rIxSt : R2 := fun x y H Q => ∃ z i, x = .str z ∧ y = .int i ∧ z.length ≤ sizeLine ∧ ∃ c, atI z.cps.toList i = some c ∧ Q (.str ⟨#[c]⟩) H
theorem ix_S : IxR X rIxSt := IxR.imp ix_str fun x y H Q ⟨z, i, e1, e2, h, v, a, q⟩ => ⟨z, i, v, e1, e2, h, a, q⟩
/-- len(xs) -/
def rLenL : List V → Hp → VK → Prop := fun xs H Q => ∃ p ys, xs = [.ref p] ∧ H p = some (.lst ys) ∧ Q (.int ys.length) H
def rLenT : List V → Hp → VK → Prop := fun xs H Q => ∃ p ys, xs = [.ref p] ∧ H p = some (.tup ys) ∧ Q (.int ys.length) H
theorem len_L : CallR X (.builtin "len") rLenL := CallR.imp call_len_seq fun xs H Q ⟨p, ys, e, h, q⟩ => ⟨p, ys, e, .inl (.inl (.inl h)), q⟩
theorem len_T : CallR X (.builtin "len") rLenT := CallR.imp call_len_seq fun xs H Q ⟨p, ys, e, h, q⟩ => ⟨p, ys, e, .inr (.inl (.inl h)), q⟩
def rLenS : List V → Hp → VK → Prop := fun xs H Q => ∃ z, xs = [.str z] ∧ z.length ≤ sizeLine ∧ Q (.int z.length) H
theorem len_S : CallR X (.builtin "len") rLenS := call_len_str
/-- int(n) -/
def rIntI : List V → Hp → VK → Prop := fun xs H Q => ∃ i, xs = [.int i] ∧ Q (.int i) H
theorem int_I : CallR X (.type "int") rIntI := CallR.imp call_int1 fun xs H Q h => .inl h
def rOrd : List V → Hp → VK → Prop := fun xs H Q => ∃ x, xs = [.str x] ∧ x.length = 1 ∧ Q (.int (x.cps.getD 0 0 : Nat)) H
theorem ord_S : CallR X (.builtin "ord") rOrd := call_ord
/-- xs[a:b] -/
def rSlLt : V → Option Int → Option Int → Hp → VK → Prop := fun x lo hi H Q => ∃ a xs, x = .ref a ∧ H a = some (.lst xs) ∧ ∀ p, H p = none → Q (.ref p) (upd H p (.lst (cutV xs lo hi)))
theorem sl_L : SlR X rSlLt := SlR.imp sl_list fun x lo hi H Q ⟨a, xs, e, h, q⟩ => ⟨a, xs, e, .inl (.inl h), q⟩
/-- list(t), list(xs) -/
def rLstL : List V → Hp → VK → Prop := fun xs H Q => ∃ p ys, xs = [.ref p] ∧ H p = some (.lst ys) ∧ ∀ l, H l = none → Q (.ref l) (upd H l (.lst ys))
def rLstT : List V → Hp → VK → Prop := fun xs H Q => ∃ p ys, xs = [.ref p] ∧ H p = some (.tup ys) ∧ ∀ l, H l = none → Q (.ref l) (upd H l (.lst ys))
theorem list_L : CallR X (.type "list") rLstL := CallR.imp call_list_of fun xs H Q ⟨p, ys, e, h, q⟩ => ⟨p, ys, e, .inl (.inl (.inl h)), q⟩
theorem list_T : CallR X (.type "list") rLstT := CallR.imp call_list_of fun xs H Q ⟨p, ys, e, h, q⟩ => ⟨p, ys, e, .inr (.inl (.inl h)), q⟩
/-- all(xs), any(xs) of truth values -/
def rAllL : List V → Hp → VK → Prop := fun vs H Q => ∃ (a : Addr) (bs : List Bool), vs = [V.ref a] ∧ H a = some (.lst (bs.map V.bl)) ∧ Q (.bl (bs.all id)) H
def rAnyL : List V → Hp → VK → Prop := fun vs H Q => ∃ (a : Addr) (bs : List Bool), vs = [V.ref a] ∧ H a = some (.lst (bs.map V.bl)) ∧ Q (.bl (bs.any id)) H
theorem all_L (hc : X.calm = true) : CallR X (.builtin "all") rAllL := CallR.imp (cr_all hc) fun xs H Q ⟨p, ys, e, h, q⟩ => ⟨p, ys, e, .inl (.inl h), q⟩
theorem any_L (hc : X.calm = true) : CallR X (.builtin "any") rAnyL := CallR.imp (cr_any hc) fun xs H Q ⟨p, ys, e, h, q⟩ => ⟨p, ys, e, .inl (.inl h), q⟩
/-- s * n -/
def rMulS : R2 := fun x y H Q => ∃ z n, x = .str z ∧ y = .int n ∧ 0 ≤ n ∧ n ≤ 1000000 ∧ z.length * n.toNat ≤ 1000000 ∧ Q (.str (Txt.mul z n)) H
theorem mulOk_of {z : Str} {n : Int} (h0 : 0 ≤ n) (h : z.length * n.toNat ≤ 1000000) (hn : z.length ≠ 0 → n ≤ 1000000) (h63 : n < 2 ^ 63) : MulOk z n := by
  refine ⟨?_, fun h1 h2 => ?_, fun h1 h2 => ?_⟩
  · have a : ¬ n < -(2 ^ 63 : Int) := by omega
    have b : ¬ n ≥ 2 ^ 63 := by omega
    simp only [decide_eq_false a, decide_eq_false b, Bool.or_self]
  · simp only [Bool.or_eq_false_iff, beq_eq_false_iff_ne] at h2
    have hz := hn h2.2
    have hl : z.length ≤ 1000000 := Nat.le_trans (Nat.le_mul_of_pos_right _ (by omega)) h
    have : (2 ^ 63 - 1) / n ≥ 1000000 := by
      apply (Int.le_ediv_iff_mul_le (by omega)).mpr
      have : 1000000 * n ≤ 1000000 * 1000000 := Int.mul_le_mul_of_nonneg_left hz (by decide)
      omega
    omega
  · unfold Builtin.Str.tooLong
    rw [decide_eq_false_iff_not, sizeLine_eq]
    omega
theorem op_mul_str : OpR X (binaryOp .Mult) rMulS := by
  intro pins s σ H x y v u Q I rx ry h
  obtain ⟨z, n, rfl, rfl, h0, h1, hl, q⟩ := h
  obtain ⟨t, rfl⟩ := rx
  obtain ⟨t', rfl⟩ := ry
  exact SB.mul (mulOk_of h0 hl (fun _ => h1) (by omega)) fun t' k => ⟨.str (Txt.mul z n), H, I.tok _, ⟨_, rfl⟩, q⟩
end
/-! ### for i, c in enumerate(text) -/
def Ites (z : Str) : It :=
  ⟨fun i _ => i < z.cps.size, fun i H v H' => ∃ T c, v = .ref T ∧ H T = none ∧ H' = upd H T (.tup [.int (i : Nat), .str ⟨#[c]⟩]) ∧ z.cps[i]? = some c, fun i _ => z.cps.size ≤ i⟩
theorem strDraws {P : Program} {w : World} {A : Around} (hh : A.handled = none) (it : Addr) (x : Str) (t : Tok) : Draws P w A it [it] x.cps.size (fun i v => ∃ c u, x.cps[i]? = some c ∧ v = .str ⟨#[c]⟩ u) (fun i h => h.IsStrIter it (strIterType x) x t i) := by
  have e : strIterType x = "str_ascii_iterator" ∨ strIterType x = "str_iterator" := by
    unfold strIterType
    split
    · exact .inl rfl
    · exact .inr rfl
  rcases e with e | e
  · rw [e]; exact Draws.strAscii hh it x t
  · rw [e]; exact Draws.strWide hh it x t
theorem turn_enumS {P : Program} {w : World} {K : PySem.W.Frag} {elts : List Expr} {kk : Nat} {tpos : Pos} (x : Str) (t : Tok) (e it : Addr) :
    Turn P w K (.Tuple elts kk tpos) (Ites x) [e, it] e (fun i h => (∃ old, IsEnum h e it ((i : Nat) : Int) old) ∧ h.IsStrIter it (strIterType x) x t i ∧ i ≤ x.cps.size ∧ e ≠ it) where
  mem := by simp
  obj := fun i h st b hb => by
    obtain ⟨⟨old, he⟩, ⟨o, ho, hc, hd⟩, _⟩ := st
    have e' : b = e ∨ b = it := by simpa using hb
    rcases e' with z | z
    · rw [z]; exact ⟨_, he, fun v q => nomatch q⟩
    · rw [z]; exact ⟨o, ho, fun v q => by rw [hd] at q; cases q⟩
  keep := fun i h h' st k => let ⟨⟨old, he⟩, ⟨o, ho, hr⟩, hi, hne⟩ := st; ⟨⟨old, k e (by simp) _ he⟩, ⟨o, k it (by simp) o ho, hr⟩, hi, hne⟩
  item := by
    intro X hP hw hK hc i pins s σ H E I hf st hg
    subst hP hw hK
    obtain ⟨⟨old, he⟩, hit, hi, hne⟩ := st
    have hel : e < s.heap.objs.size := Heap.lt_size he
    have hil : it < s.heap.objs.size := by obtain ⟨_, q, _⟩ := hit; exact Heap.lt_size q
    have D := strDraws (P := X.prog) (w := X.w) (A := X.A.in1) (show X.A.in1.handled = none from I.ok.hd hc) it x t
    refine wpAny_pyNext_enum_itemD D he hit hg hne (by simpa using hne) fun u h' tk hu ho hit' hT hsz hk => ?_
    obtain ⟨c, tc, hcx, rfl⟩ := hu
    refine ⟨_, rfl, wpAny_letOwnedTupleGo_enum (s := { s with heap := h', toks := tk + 1 }) ho fun h'' he' sb => ?_⟩
    have hT2 : h''.get? s.heap.objs.size = some { cls := .type "tuple", data := .seq #[.int i tk, .str ⟨#[c]⟩ tc] } := (sb.2 _ (Nat.ne_of_gt hel)).trans hT
    have new : ObjOk X.prog X.w (upd H s.heap.objs.size (.tup [.int (i : Nat), .str ⟨#[c]⟩])) h'' s.heap.objs.size (.tup [.int (i : Nat), .str ⟨#[c]⟩]) :=
      ⟨by show 2 ≤ sizeLine; decide, [.int i tk, .str ⟨#[c]⟩ tc], .cons ⟨_, rfl⟩ (.cons ⟨_, rfl⟩ .nil), ⟨_, hT2, rfl, _, rfl⟩⟩
    have I1 : Inv X pins σ (upd H s.heap.objs.size (.tup [.int (i : Nat), .str ⟨#[c]⟩])) { s with heap := h'', toks := tk + 1 } :=
      I.turnedNew (ch := [e, it]) (fun b ob hb q => (sb.2 b (fun z => hb (by simp [z]))).trans (hk b ob (fun z => hb (by simp [z])) (fun z => hb (by simp [z])) q)) hf (Nat.le_refl _) new
    refine ⟨.ref s.heap.objs.size, _, I1, rfl, ⟨_, c, rfl, I.hok.fresh (Nat.le_refl _), rfl, hcx⟩, ⟨⟨.str ⟨#[c]⟩ tc, ?_⟩, ?_, hg, hne⟩, fun b hb => ?_⟩
    · have e1 : ((i + 1 : Nat) : Int) = (i : Int) + 1 := by omega
      rw [e1]; exact he'
    · obtain ⟨o, ho2, hr⟩ := hit'
      exact ⟨o, (sb.2 it (Ne.symm hne)).trans ho2, hr⟩
    · have hb' : b < s.heap.objs.size := by
        have e' : b = e ∨ b = it := by simpa using hb
        rcases e' with z | z
        · rw [z]; exact hel
        · rw [z]; exact hil
      rw [upd_ne (Nat.ne_of_lt hb')]
      exact (hf b hb).1
  done := by
    intro X hP hw hK hc i pins s σ H E I hf st hg
    subst hP hw hK
    obtain ⟨⟨old, he⟩, hit, hi, hne⟩ := st
    have ei : i = x.cps.size := Nat.le_antisymm hi hg
    subst ei
    obtain ⟨f0, f1, f2, f3, f4, f5⟩ := hf it (by simp)
    have D := strDraws (P := X.prog) (w := X.w) (A := X.A.in1) (show X.A.in1.handled = none from I.ok.hd hc) it x t
    exact wpAny_pyNext_enum_endD D he hit fun h' eb => ⟨rfl, I.turned (t' := s.toks) (fun b o hb q => eb b o hb q) f0 f1 f3 f4 f5⟩
  self := fun A i s Q E st h => let ⟨⟨_, he⟩, _⟩ := st; wpAny_pyIter_enum he h
def iEnumS (ta : TA) : TI := fun σ H R => ta σ H fun vs H1 => ∃ z, vs = [.str z] ∧ R (Ites z) H1
theorem pi_enumS {X : Cx} {e : Expr} {ta : TA} {p pos tpos : Pos} {elts : List Expr} {kk : Nat} (hg : Gl X "enumerate") (hm : X.mg "enumerate" = none) (ha : PA X [e] ta) (hs : starEach [e] X.env = [(false, eval e X.env)] := by rfl) :
    PI X (.Tuple elts kk tpos) (.Call (.Name "enumerate" p) [e] [] pos) (iEnumS ta) := by
  refine ⟨fun pins s σ H R I h => ?_⟩
  refine Call_ (ld_blt I hg hm boot_enumerate (PyProof.Rows.callWith_type1 (thn (ha.run pos pins s σ H _ I h) fun us s1 ⟨vs, H1, I1, r1, q1⟩ => ?_) hs rfl))
  obtain ⟨z, ex, q⟩ := q1
  subst ex
  cases r1 with
  | cons r rr =>
    cases rr
    obtain ⟨t, rfl⟩ := r
    refine call_enumerate_str fun h' he hit hsz hk => wpAny_pyIter_enum he ?_
    have I2 : Inv X pins σ H1 { s1 with heap := h' } := I1.kept (t' := s1.toks) hk
    refine ⟨s1.heap.objs.size + 1, [s1.heap.objs.size + 1, s1.heap.objs.size], _, _, H1, rfl, I2, turn_enumS z t (s1.heap.objs.size + 1) s1.heap.objs.size, ⟨⟨.none, he⟩, hit, Nat.zero_le _, Nat.succ_ne_self _⟩, fun b hb => ?_, q⟩
    have e' : b = s1.heap.objs.size + 1 ∨ b = s1.heap.objs.size := by simpa using hb
    have hle : s1.heap.objs.size ≤ b := by
      rcases e' with z | z
      · rw [z]; exact Nat.le_add_right _ _
      · rw [z]; exact Nat.le_refl _
    exact I1.fpOk hle (I1.hok.fresh hle)
/-- the loop over enumerate(text), by an invariant -/
theorem for_enumS {z : Str} {g : TG} {tb : TS} {D : Ends} {σ : L2.St} {H1 : Hp} (Pv : Nat → L2.St → Hp → Prop) (h0 : Pv 0 σ H1)
    (hs : ∀ i c T σ H, z.cps[i]? = some c → Pv i σ H → H T = none → g (.ref T) σ (upd H T (.tup [.int (i : Nat), .str ⟨#[c]⟩])) fun σ' H' => tb { nx := fun σ H => Pv (i + 1) σ H, rt := D.rt, bk := D.nx, ct := fun σ H => Pv (i + 1) σ H } σ' H')
    (hd : ∀ σ H, Pv z.cps.size σ H → D.nx σ H) : ∃ W : Nat → Nat → L2.St → Hp → Prop, (∃ m, W 0 m σ H1) ∧ ∀ i m σ H, W i m σ H →
      ((Ites z).stop i H ∧ D.nx σ H) ∨ ((Ites z).go i H ∧ ∃ N : L2.St → Hp → Prop, (∀ σ' H', N σ' H' → ∃ m', m' < m ∧ W (i + 1) m' σ' H') ∧ ∀ x H', (Ites z).yld i H x H' → g x σ H' fun σ2 H2 => tb { nx := N, rt := D.rt, bk := D.nx, ct := N } σ2 H2) := by
  refine ⟨fun i m σ H => m = z.cps.size - i ∧ i ≤ z.cps.size ∧ Pv i σ H, ⟨_, rfl, Nat.zero_le _, h0⟩, ?_⟩
  rintro i m σ H ⟨rfl, hi, p⟩
  by_cases hlt : i < z.cps.size
  · refine .inr ⟨hlt, fun σ' H' => Pv (i + 1) σ' H', fun σ' H' q => ⟨z.cps.size - (i + 1), by omega, rfl, hlt, q⟩, fun x H' hy => ?_⟩
    obtain ⟨T, c, rfl, nT, rfl, hc⟩ := hy
    exact hs i c T σ H hc p nT
  · have ei : i = z.cps.size := by omega
    subst ei
    exact .inl ⟨Nat.le_refl _, hd σ H p⟩
end Fx
/-! == of flat lists; isinstance of built-in classes -/
namespace Fx
open PySem PySem.Spec PyProof.Rows L2
/-- None, an int, a text: two of these are equal in Python just if they are the same -/
def isF : V → Bool
  | .non => true
  | .int _ => true
  | .str x => PyData.strOk x
  | _ => false
def datV : V → PyData
  | .non => .none
  | .int i => .int i
  | .str x => .str x
  | _ => .none
theorem eqv_dat {x y : V} (hx : isF x = true) (hy : isF y = true) : PyData.eqv (datV x) (datV y) = decide (x = y) := by
  cases x <;> cases y <;> first | (exfalso; revert hx; simp [isF]; done) | (exfalso; revert hy; simp [isF]; done) | (simp [datV, PyData.eqv]; done) | (simp only [datV, PyData.eqv, V.int.injEq, V.str.injEq]; exact Bool.eq_iff_iff.mpr (by simp)) 
theorem eqvAll_dat : ∀ {xs ys : List V}, xs.all isF = true → ys.all isF = true → PyData.eqvAll (xs.map datV) (ys.map datV) = decide (xs = ys)
  | [], [], _, _ => by simp [PyData.eqvAll]
  | [], _ :: _, _, _ => by simp [PyData.eqvAll]
  | _ :: _, [], _, _ => by simp [PyData.eqvAll]
  | x :: xs, y :: ys, hx, hy => by
    simp only [List.all_cons, Bool.and_eq_true] at hx hy
    simp only [List.map_cons, PyData.eqvAll, eqv_dat hx.1 hy.1, eqvAll_dat hx.2 hy.2]
    by_cases e : x = y <;> simp [e]
theorem dp_dat {K : PySem.W.Frag} {H : Hp} {x : V} (hx : isF x = true) : Dp K H x (datV x) := by
  cases x <;> first | (exfalso; revert hx; simp [isF]; done) | exact .non | exact .int _ | exact .str _
theorem dpAll_dat {K : PySem.W.Frag} {H : Hp} : ∀ {xs : List V}, xs.all isF = true → DpAll K H xs (xs.map datV)
  | [], _ => .nil
  | x :: xs, hx => by
    simp only [List.all_cons, Bool.and_eq_true] at hx
    exact .cons (dp_dat hx.1) (dpAll_dat hx.2)
theorem lay_flat : ∀ {xs : List V}, xs.all isF = true → PyData.canLayAll0 (xs.map datV) = true ∧ PyData.depthAll (xs.map datV) = 0
  | [], _ => by simp [PyData.canLayAll0, PyData.depthAll]
  | x :: xs, hx => by
    simp only [List.all_cons, Bool.and_eq_true] at hx
    obtain ⟨h1, h2⟩ := lay_flat hx.2
    have h3 : PyData.canLay0 (datV x) = true ∧ PyData.depth (datV x) = 0 := by
      have hx1 := hx.1
      cases x <;> first | (exfalso; revert hx1; simp [isF]; done) | exact ⟨by simpa [datV, PyData.canLay0, isF] using hx1, by simp [datV, PyData.depth]⟩
    simp [PyData.canLayAll0, PyData.depthAll, h1, h2, h3.1, h3.2]
theorem shaped_flat {xs : List V} (hx : xs.all isF = true) : SeqAt.shaped (.list (xs.map datV)) = true := by
  obtain ⟨h1, h2⟩ := lay_flat hx
  simp [SeqAt.shaped, PyData.canLay0, PyData.depth, h1, h2]
def rEqL : R2 := fun x y H Q => ∃ p q xs ys, x = .ref p ∧ y = .ref q ∧ H p = some (.lst xs) ∧ H q = some (.lst ys) ∧ xs.all isF = true ∧ ys.all isF = true ∧ Q (.bl (decide (xs = ys))) H
theorem eq_LL {X : Cx} (hu : X.A.units + 64 < cLine) : OpR X (compareOp .Eq) rEqL := by
  intro pins s σ H x y v u Q I rx ry h
  obtain ⟨p, q, xs, ys, rfl, rfl, hp, hq, fx, fy, k⟩ := h
  refine op_eqD hu pins s σ H _ _ v u Q I rx ry ⟨.list (xs.map datV), .list (ys.map datV), .lst (.inl (.inl hp)) (dpAll_dat fx), .lst (.inl (.inl hq)) (dpAll_dat fy), shaped_flat fx, shaped_flat fy, ?_⟩
  rw [PyData.eqv, eqvAll_dat fx fy]
  exact k
/-- what built-in type a value is of -/
def tyv (H : Hp) : V → Option String
  | .non => some "NoneType"
  | .bl _ => some "bool"
  | .int _ => some "int"
  | .str _ => some "str"
  | .byt _ => some "bytes"
  | .ref a => (match H a with
    | some (.lst _) => some "list"
    | some (.tup _) => some "tuple"
    | some (.dK _) => some "dict"
    | some (.dT _) => some "dict"
    | _ => none)
  | _ => none
theorem tyv_ok {K : PySem.W.Frag} {H : Hp} {x : V} {t : String} (h : tyv H x = some t) : TyX K H x (.type t) := by
  cases x with
  | non => cases h; exact .base .non
  | bl b => cases h; exact .base (.bl b)
  | int i => cases h; exact .base (.int i)
  | str z => cases h; exact .base (.str z)
  | byt b => cases h; exact .byt b
  | flt b => cases h
  | ty n => cases h
  | ref a =>
    simp only [tyv] at h
    cases e : H a with
    | none => simp only [e] at h; cases h
    | some o =>
      simp only [e] at h
      cases o <;> first | (cases h; done) | (cases h; exact .base (.lst e)) | (cases h; exact .base (.tup e)) | (cases h; exact .base (.dK e)) | (cases h; exact .base (.dT e))
section
variable {H : Hp} {a : Addr} {xs : List V} {kvs : List (Key × V)}
theorem tyv_non : tyv H .non = some "NoneType" := rfl
theorem tyv_bl {b : Bool} : tyv H (.bl b) = some "bool" := rfl
theorem tyv_int {i : Int} : tyv H (.int i) = some "int" := rfl
theorem tyv_str {z : Str} : tyv H (.str z) = some "str" := rfl
theorem tyv_lst (h : H a = some (.lst xs)) : tyv H (.ref a) = some "list" := by simp only [tyv, h]
theorem tyv_tup (h : H a = some (.tup xs)) : tyv H (.ref a) = some "tuple" := by simp only [tyv, h]
theorem tyv_dK (h : H a = some (.dK kvs)) : tyv H (.ref a) = some "dict" := by simp only [tyv, h]
end
def rIsB : List V → Hp → VK → Prop := fun xs H Q => ∃ x n, xs = [x, .ty n] ∧ ∃ t, tyv H x = some t ∧ ∃ b, kitB t n = some b ∧ Q (.bl b) H
theorem is_B {X : Cx} : CallR X (.builtin "isinstance") rIsB := CallR.imp call_isi fun xs H Q ⟨x, n, e, t, ht, b, hb, q⟩ => ⟨x, .ty n, .type t, .type n, b, e, .ty n, tyv_ok ht, kit_ty hb, q⟩
theorem kb_int_int : kitB "int" "int" = some true := by decide +kernel
theorem kb_int_bool : kitB "int" "bool" = some false := by decide +kernel
theorem kb_bool_int : kitB "bool" "int" = some true := by decide +kernel
theorem kb_bool_bool : kitB "bool" "bool" = some true := by decide +kernel
theorem kb_str_str : kitB "str" "str" = some true := by decide +kernel
theorem kb_int_str : kitB "int" "str" = some false := by decide +kernel
theorem kb_bool_str : kitB "bool" "str" = some false := by decide +kernel
theorem kb_none_str : kitB "NoneType" "str" = some false := by decide +kernel
theorem kb_list_str : kitB "list" "str" = some false := by decide +kernel
theorem kb_tuple_str : kitB "tuple" "str" = some false := by decide +kernel
theorem kb_dict_str : kitB "dict" "str" = some false := by decide +kernel
theorem kb_tuple_tuple : kitB "tuple" "tuple" = some true := by decide +kernel
theorem kb_list_list : kitB "list" "list" = some true := by decide +kernel
end Fx
/-! A def whose body begins with a token out (for str.replace): with cells too -/
namespace Fx
open PySem PySem.Spec PyProof.Rows L2
section
variable {M : Model} {A : Around} {E : Value → Shared → Prop} {s₀ s : Shared} {m cm : Str → Option Value} {env : Env}
theorem stLCT {n : Str} {v : Value} {Q : Unit → Shared → Prop} (x : InCallC s₀ env.locals m env.cells cm s) (hk : env.scope.kind = .function) (hl : env.kindOf n = some .local)
    (h : ∀ s', InCallC s₀ env.locals (fun y => if y = n then some v else m y) env.cells cm s' → 1 ≤ s'.toks → Q () s') : wpAny M A (storeName env n v) Q E s := by
  refine wpAny_storeName_local hl x.toInCall.ns (fun h' hn' hs' => h _ ⟨⟨?_, hn', fun b o e => ?_, x.toInCall.fresh⟩, fun k c hc => ?_, x.apart, x.above⟩ (Nat.le_add_left _ _)) (by rw [hk]; rfl)
  · obtain ⟨h₁, tk, rfl⟩ := x.toInCall.same
    exact ⟨h', _, rfl⟩
  · exact hs'.extBut b o (Nat.ne_of_lt (Nat.lt_of_lt_of_le (Heap.lt_size e) x.toInCall.fresh)) (x.toInCall.keep b o e)
  · exact (x.cell k c hc).sameBut hs' (Nat.ne_of_gt (x.above k c (mem_of_lookup hc)))
theorem bindParamsT (f : Str × Value → PUnit → Sem (ForInStep PUnit)) (hf : ∀ n v u, f (n, v) u = (do storeName env n v; pure (.yield ⟨⟩))) (hk : env.scope.kind = .function)
    (n : Str) (v : Value) (r : List (Str × Value)) (hl : env.kindOf n = some .local) (m cm : Str → Option Value) (s : Shared) (Q : PUnit → Shared → Prop) (x : InCallC s₀ env.locals m env.cells cm s)
    (hkind : ∀ y ∈ r, env.kindOf y.1 = some .local ∨ (env.kindOf y.1 = some .cell ∧ (env.cells.lookup y.1).isSome = true))
    (h : ∀ s', InCallC s₀ env.locals (bindL env.kindOf ((n, v) :: r) m) env.cells (bindC env.kindOf ((n, v) :: r) cm) s' → 1 ≤ s'.toks → Q ⟨⟩ s') : wpAny M A (forIn ((n, v) :: r) ⟨⟩ f) Q E s := by
  rw [List.forIn_cons, hf]
  refine wpAny_bind (wpAny_bind (stLCT x hk hl fun s' x' ht => wpAny_pure ?_))
  refine wpAny_with_toks ht (wpAny_bindParams f hf hk r _ _ s' (fun u s'' => 1 ≤ s''.toks → Q u s'') x' hkind fun s'' x'' ht' => h s'' ?_ ht')
  unfold bindL bindC
  rw [if_pos hl, if_pos hl]
  exact x''
end
section
variable {M : Model} {A : Around} {E : Value → Shared → Prop} {s : Shared}
theorem newFunctionEnvT {scope : Scope} {globals : Addr} {n : Str} {v : Value} {r : List (Str × Value)} {qual : Str} {func : Option Addr} {code : Value} {builtins : Addr} {Q : Env → Shared → Prop}
    (hk : scope.kind = .function) (hl : scope.names.lookup n = some .local)
    (hkind : ∀ x ∈ r, scope.names.lookup x.1 = some .local ∨ (scope.names.lookup x.1 = some .cell ∧ ((cellsFrom (s.heap.objs.size + 1) scope.names []).lookup x.1).isSome = true))
    (hQ : ∀ env, env = newEnv scope s.heap.objs.size globals (cellsFrom (s.heap.objs.size + 1) scope.names []) qual func code none builtins →
      ∀ s', InCallC s env.locals (bindL env.kindOf ((n, v) :: r) fun _ => none) env.cells (bindC env.kindOf ((n, v) :: r) fun _ => none) s' → 1 ≤ s'.toks → Q env s') :
    wpAny M A (newFunctionEnv scope globals [] ((n, v) :: r) qual func code none builtins) Q E s := by
  simp only [newFunctionEnv, Option.isSome_none, Bool.false_eq_true, if_false]
  refine wpAny_bind (wpAny_alloc ?_)
  refine wpAny_bind (wpAny_layCells _ (fun name kind cells => by cases hkc : kind == NameKind.cell <;> simp [hkc]) _ _ _ _ ?_)
  have ok := cellsFrom_ok scope.names (s.heap.push { cls := .type "frame", data := .dict #[] }) (s.heap.objs.size + 1) [] ⟨fun _ _ hm => (nomatch hm), List.Pairwise.nil⟩ (by rw [Heap.size_push]; exact Nat.le_refl _)
  rw [Heap.size_push] at ok
  rw [show ({ s with heap := s.heap.push { cls := .type "frame", data := .dict #[] } } : Shared).heap.objs.size = s.heap.objs.size + 1 from Heap.size_push ..]
  refine wpAny_bind (bindParamsT (s₀ := s) (env := newEnv scope s.heap.objs.size globals (cellsFrom (s.heap.objs.size + 1) scope.names []) qual func code none builtins)
    _ (fun _ _ _ => rfl) hk n v r hl (fun _ => none) (fun _ => none) _ _
    ⟨⟨⟨_, _, rfl⟩, (Heap.Ns.new s.heap (.type "frame")).keeps (pushCells_keeps _ _), fun b o e => pushCells_keeps _ _ b o (Heap.get?_push_of_some _ e), Nat.le_refl _⟩,
      fun n c hc => (ok.empty n c (mem_of_lookup hc)).1, ok.apart, fun n c hm => (ok.empty n c hm).2⟩
    hkind fun s' x ht => wpAny_pure (hQ _ rfl s' x ht))
end
/-- a def's body, a token out when it begins; its first parameter is a local -/
theorem fn_ofTC {CX : CXT} {P : Program} {w : World} {K : PySem.W.Frag} {mg : Str → Option Value} {base : Heap} {k : Nat} {f : Addr} {name qual : Str} {params : Arguments} {body : List Stmt} {scope : Scope} {dV kV doc pm cdv ct oc : Value} {an od : Option Addr}
    {osl : Array (Option Value)} {N ps : List Str} {x0 : Str} {sp : Sp} (lk : K.lookup f = some ⟨oc, od, .func (PySem.W.fnOf name qual params body scope dV kV doc pm an cdv ct), osl⟩) (hcd : PySem.W.codeIn K cdv qual = true) (S : FnScope N (x0 :: ps) scope)
    (h0 : scope.names.lookup x0 = some .local) (len : ∀ vs H Q E, sp vs H Q E → vs.length = (x0 :: ps).length)
    (hbody : ∀ (A : Around) (outer : List Env) (s : Shared) (H : Hp) (vs : List V) (Q : VK) (E : XK), Room k (A.deeper (envOfC qual scope s.heap.objs.size f cdv)) → sp vs H Q E →
      ∃ t, PSsT (cxOf CX P w K mg base N qual scope f cdv A outer s H E) body t ∧ t { nx := fun _ H' => Q .non H', rt := Q } (L2.start N vs) H) :
    FnOk P w K mg base CX (k + 1) f (PySem.W.fnOf name qual params body scope dV kV doc pm an cdv ct) (x0 :: ps) sp := by
  refine ⟨len, fun A outer s H args us vs Q E hr e0 hb r hsp => ?_⟩
  have hl := len _ _ _ _ hsp
  have KX : K.In s.heap := e0.mod.kin.keeps fun b o e => (e0.bs b o e).1
  have lim : s.heap.NoLimit := e0.mod.nolimit.keeps fun b o e => (e0.bs b o e).1
  have hul : us.length = (x0 :: ps).length := by rw [← r.length, hl]
  obtain ⟨u0, ur, rfl⟩ : ∃ u0 ur, us = u0 :: ur := by
    cases us with
    | nil => cases hul
    | cons a b => exact ⟨a, b, rfl⟩
  have hkind : ∀ y ∈ ps.zip ur, scope.names.lookup y.1 = some .local ∨ (scope.names.lookup y.1 = some .cell ∧ ((cellsFrom (s.heap.objs.size + 1) scope.names []).lookup y.1).isSome = true) := fun ⟨n, v⟩ hy => by
    rcases S.par n (List.mem_cons_of_mem _ (List.of_mem_zip hy).1) with q | q
    · exact .inl q
    · exact .inr ⟨q, PySem.W.cellsFrom_some _ _ _ (.inl q)⟩
  refine codeAny_call_function hr.depth (KX _ _ lk) rfl S.co S.gen rfl (PySem.W.codeRec_of KX hcd) (hb _ _ _ _ ?_)
  show wpAny _ _ (newFunctionEnv scope _ [] ((x0, u0) :: ps.zip ur) _ _ _ _ _) _ _ _
  refine newFunctionEnvT S.kind h0 hkind fun env he s1 x ht => ?_
  subst he
  refine ⟨lim.keeps x.toInCall.keep, codeAny_func ?_⟩
  obtain ⟨t, hT, hq⟩ := hbody A outer s H vs Q E (hr.deeper _) hsp
  have I : Inv (cxOf CX P w K mg base N qual scope f cdv A outer s H E) [] (L2.start N vs) H s1 := inv_start S hr.hd e0 hl r x
  refine wpAny_mono (hT [] s1 (L2.start N vs) H _ ht I hq) (fun fl s' hs => ?_) fun e s' hs => hs
  have fin : ∀ {σ' : L2.St} {H' : Hp} {v : V} {u : Value}, Inv (cxOf CX P w K mg base N qual scope f cdv A outer s H E) [] σ' H' s' → RelV v u → Q v H' → CE outer P w H s Q u s' :=
    fun {σ' H' v u} J rv q => ⟨v, H', J.os, J.bare, J.base, J.hok, rv, q⟩
  cases fl with
  | ret u =>
    obtain ⟨v, σ', H', J, rv, q⟩ := hs
    exact fin J rv q
  | next =>
    obtain ⟨σ', H', J, q⟩ := hs
    exact fin (v := V.non) (u := Value.none) J rfl q
  | brk =>
    obtain ⟨_, _, _, q⟩ := hs
    exact False.elim q
  | cont =>
    obtain ⟨_, _, _, q⟩ := hs
    exact False.elim q
/-! ### tests, calls, slices with a token out -/
section
variable {X : Cx}
def PTT (X : Cx) (e : Expr) (t : TT) : Prop := ∀ (pins : List (Addr × Obj)) (s : Shared) (σ : L2.St) (H : Hp) (Q : Bool → Hp → Prop), 1 ≤ s.toks → Inv X pins σ H s → t σ H Q → wpAny (model X.prog X.w) X.A (isTrue e X.env (eval e X.env)) (TP X pins σ Q) X.xe s
def PWT (X : Cx) (e : Expr) (t : TT) : Prop := ∀ (whole : Sem Value) (pins : List (Addr × Obj)) (s : Shared) (σ : L2.St) (H : Hp) (Q : Bool → Hp → Prop), 1 ≤ s.toks → Inv X pins σ H s → t σ H Q → wpAny (model X.prog X.w) X.A (isTrue e X.env whole) (TP X pins σ Q) X.xe s
theorem PWT.pt {e : Expr} {t : TT} (h : PWT X e t) : PTT X e t := h _
theorem ptt_val {e : Expr} {t : TE} (h : PET X e t) (he : ∀ whole, isTrue e X.env whole = (do let v ← whole; standAt e.pos; holding [v] (truthy v)) := by intro _; rfl) : PTT X e (tB t) := by
  intro pins s σ H Q ht I hw
  refine isTrue_plain (thn (h pins s σ H _ ht I hw) fun v s1 ⟨x, H1, I1, r1, q1⟩ => ?_) (he _)
  obtain ⟨d, rfl, q⟩ := q1
  cases r1
  exact wpAny_truthy_bool ⟨H1, I1, q⟩
theorem ptt_not {a : Expr} {tA : TT} {pos : Pos} (ha : PTT X a tA) : PTT X (.UnaryOp .Not a pos) (tNot tA) := by
  intro pins s σ H Q ht I h
  exact isTrue_not (ha pins s σ H (fun c H1 => Q (!c) H1) ht I h)
theorem pwt_or1 {a : Expr} {tA : TT} {pos : Pos} (ha : PTT X a tA) : PWT X (.BoolOp .Or [a] pos) tA := by
  intro wh pins s σ H Q ht I h
  refine isTrue_or (thn (ha pins s σ H Q ht I h) fun c s1 e => ?_)
  cases c with
  | false => exact isTrue_or_nil e
  | true => exact e
theorem pwt_or {a b : Expr} {rest : List Expr} {tA tB' : TT} {pos : Pos} (ha : PT X a tA) (hb : PWT X (.BoolOp .Or (b :: rest) pos) tB') : PWT X (.BoolOp .Or (a :: b :: rest) pos) (tOr tA tB') := by
  intro wh pins s σ H Q ht I h
  refine isTrue_or (wpAny_mono (wpAny_toks_of ht (ha.run pins s σ H _ I h)) (fun c s1 z => ?_) fun _ _ z => z.2)
  obtain ⟨ht1, H1, I1, q1⟩ := z
  cases c with
  | true => exact ⟨H1, I1, q1⟩
  | false => exact hb wh pins s1 σ H1 Q ht1 I1 q1
theorem pst_ifT {c : Expr} {a b : List Stmt} {tc : TT} {t u : TS} {pos : Pos} (hc : PTT X c tc) (ha : PSs X a t) (hb : PSs X b u) : PST X (.If c a b pos) (tIfS tc t u) := by
  intro pins s σ H D ht I h
  refine wpAny_If (thn (hc pins s σ H _ ht I h) fun d s1 ⟨H1, I1, q1⟩ => ?_)
  cases d with
  | true => exact ha.run pins s1 σ H1 D I1 q1
  | false => exact hb.run pins s1 σ H1 D I1 q1
theorem psst_s {st : Stmt} {rest : List Stmt} {t u : TS} (h1 : PS X st t) (h2 : PSsT X rest u) : PSsT X (st :: rest) (tSeq t u) := psst_cons (PST.of h1) h2
def noSt : Stmt := .Pass ⟨0, 0, 0, 0⟩
theorem drop_at : ∀ (l : List Stmt) (i : Nat), i < l.length → l.drop i = l.getD i noSt :: l.drop (i + 1)
  | [], i, h => absurd h (Nat.not_lt_zero _)
  | a :: l, 0, _ => rfl
  | a :: l, i + 1, h => drop_at l i (Nat.lt_of_succ_lt_succ h)
/-- PSsT behind a structure: a def that unfolds to a ∀ is walked by the elaborator after every application -/
structure PZ (X : Cx) (l : List Stmt) (t : TS) : Prop where
  run : PSsT X l t
structure PZ1 (X : Cx) (st : Stmt) (t : TS) : Prop where
  run : PST X st t
theorem PZ.of {l : List Stmt} {t : TS} (h : PSs X l t) : PZ X l t := ⟨PSsT.of h⟩
theorem pz_at1 {l : List Stmt} {i : Nat} {t u : TS} (h : i < l.length) (h1 : PZ1 X (l.getD i noSt) t) (h2 : PZ X (l.drop (i + 1)) u) : PZ X (l.drop i) (tSeq t u) := by
  refine ⟨?_⟩
  rw [drop_at l i h]
  exact psst_cons h1.run h2.run
theorem pz_at {l : List Stmt} {i : Nat} {t u : TS} (h : i < l.length) (h1 : PS X (l.getD i noSt) t) (h2 : PZ X (l.drop (i + 1)) u) : PZ X (l.drop i) (tSeq t u) := pz_at1 h ⟨PST.of h1⟩ h2
theorem pz_at0 {l : List Stmt} {t : TS} (h : PZ X (l.drop 0) t) : PZ X l t := h
theorem pz_ifT {c : Expr} {a b : List Stmt} {tc : TT} {t u : TS} {pos : Pos} (hc : PTT X c tc) (ha : PSs X a t) (hb : PSs X b u) : PZ1 X (.If c a b pos) (tIfS tc t u) := ⟨pst_ifT hc ha hb⟩
theorem pss_at {l : List Stmt} {i : Nat} {t u : TS} (h : i < l.length) (h1 : PS X (l.getD i noSt) t) (h2 : PSs X (l.drop (i + 1)) u) : PSs X (l.drop i) (tSeq t u) := by
  rw [drop_at l i h]
  exact pss_cons h1 h2
theorem pss_at0 {l : List Stmt} {t : TS} (h : PSs X (l.drop 0) t) : PSs X l t := h
theorem pet_slice {e : Expr} {te : TE} {lo hi : Option Expr} {tl th : TO} {p2 pos : Pos} {r : V → Option Int → Option Int → Hp → VK → Prop} (hr : SlR X r) (he : PET X e te) (hl : PO X lo tl) (hu : PO X hi th) : PET X (.Subscript e (.Slice lo hi none p2) pos) (tSl r te tl th) := by
  intro pins s σ H Q ht I h
  refine Subscript_ (thn (he pins s σ H _ ht I h) fun v s1 ⟨x, H1, I1, r1, q1⟩ => ?_)
  refine wpAny_Slice (thn (hl.run pins s1 σ H1 _ I1 q1) fun vl s2 ⟨l, H2, I2, pl, q2⟩ => thn (hu.run pins s2 σ H2 _ I2 q2) fun vu s3 ⟨u, H3, I3, pu, q3⟩ => ?_)
  rw [evalPart_none]
  refine wpAny_pure ?_
  have I4 : Inv X pins σ H3 { s3 with heap := s3.heap.push { cls := .type "slice", data := .fields #[vl, vu, .none] } } := I3.kept (t' := s3.toks) fun b ob q => Heap.get?_push_of_some _ q
  obtain ⟨T, id, hT, ht, hg⟩ := hr pins { s3 with heap := s3.heap.push { cls := .type "slice", data := .fields #[vl, vu, .none] } } σ H3 x v vl vu l u s3.heap.objs.size Q I4 r1 (Heap.IsSliceOf.new ..) pl pu q3
  show wpAny (model X.prog X.w) X.A (subscriptTail e (.Slice lo hi none p2) v (.ref s3.heap.objs.size)) (EP X pins σ Q) X.xe { s3 with heap := s3.heap.push { cls := .type "slice", data := .fields #[vl, vu, .none] } }
  exact tail_any (ops := [.ref s3.heap.objs.size, v]) ht hT hg (by with_unfolding_all rfl)
theorem pet_cal {x : Str} {ps : List Str} {sp : Sp} {k : Nat} {CX : CXT} {E : XK} {e : Expr} {es : List Expr} {t : TA} {p pos : Pos} (C : Cal X.prog X.w X.K X.mg X.base CX k x ps sp) (hr : Room k X.A) (hx : Passes CX X E) (ha : PAT X (e :: es) t) (hg : Gl X x := by rfl) (hdb : (x == ("__debug__" : Str)) = false := by decide)
    (hs : (e :: es).all nostar = true := by rfl) : PET X (.Call (.Name x p) (e :: es) [] pos) (tCall sp [] E t) := by
  obtain ⟨f, fd, g, kp, b, F⟩ := C.ex
  simp only [List.all_cons, Bool.and_eq_true] at hs
  intro pins s σ H Q ht I h
  refine wpAny_Call_Name_kw (ld_glob I hg g ?_ hdb)
  refine PySem.W.callWith_K (h₀ := X.base) I.ok.mod.kin kp (thn (ha pos pins s σ H _ ht I h) fun us s1 ⟨vs, H1, I1, r, q⟩ => ⟨I1.kIn, ?_⟩) (star_ok hs.1) (back_ok hs.2)
  exact run_fn F hr b .nil hx I1 r q
end
section
variable {P : Program} {w : World} {K : PySem.W.Frag} {mg : Str → Option Value} {base : Heap} {x x0 : Str} {st : Stmt} {N ps : List Str} {k : Nat} {sp : Sp}
theorem Src.calT (S : Src K mg x st) (sc : FnScope N (x0 :: ps) (defScope st)) (bn : BindP x st (x0 :: ps)) (h0 : (defScope st).names.lookup x0 = some .local) (len : ∀ vs H Q E, sp vs H Q E → vs.length = (x0 :: ps).length)
    (hbody : ∀ (f : Addr) (cdv : Value) (A : Around) (outer : List Env) (s : Shared) (H : Hp) (vs : List V) (Q : VK) (E : XK), Room k (A.deeper (envOfC x (defScope st) s.heap.objs.size f cdv)) → sp vs H Q E →
      ∃ t, PZ (cxOf CX0 P w K mg base N x (defScope st) f cdv A outer s H E) (defBody st) t ∧ t { nx := fun _ H' => Q .non H', rt := Q } (L2.start N vs) H) : Cal P w K mg base CX0 (k + 1) x (x0 :: ps) sp := by
  obtain ⟨f, fd, g, F⟩ := S
  refine ⟨f, fd, g, F.kp, F.bindsN bn, ?_⟩
  obtain ⟨oc, od, dV, kV, doc, pm, an, cdv, ct, osl, rfl, lk, hcd, _, _⟩ := F.ex
  exact fn_ofTC lk hcd sc h0 len fun A outer s H vs Q E hr hsp => by
    obtain ⟨t, h1, h2⟩ := hbody f cdv A outer s H vs Q E hr hsp
    exact ⟨t, h1.run, h2⟩
end
/-! ### the law's own def -/
section
variable {P : Program} {w : World} {K : PySem.W.Frag} {mg : Str → Option Value} {base : Heap} {x x0 : Str} {st : Stmt} {N ps : List Str} {k : Nat} {sp : Sp} {f : Addr} {fd : FuncData}
theorem lawT (F : FunD K x x (defArgs st) (defBody st) (defScope st) [] [] f fd) (sc : FnScope N (x0 :: ps) (defScope st)) (h0 : (defScope st).names.lookup x0 = some .local) (len : ∀ vs H Q E, sp vs H Q E → vs.length = (x0 :: ps).length)
    (hbody : ∀ (f : Addr) (cdv : Value) (A : Around) (outer : List Env) (s : Shared) (H : Hp) (vs : List V) (Q : VK) (E : XK), Room k (A.deeper (envOfC x (defScope st) s.heap.objs.size f cdv)) → sp vs H Q E →
      ∃ t, PZ (cxOf CX0 P w K mg base N x (defScope st) f cdv A outer s H E) (defBody st) t ∧ t { nx := fun _ H' => Q .non H', rt := Q } (L2.start N vs) H) : FnOk P w K mg base CX0 (k + 1) f fd (x0 :: ps) sp := by
  obtain ⟨oc, od, dV, kV, doc, pm, an, cdv, ct, osl, rfl, lk, hcd, _, _⟩ := F.ex
  exact fn_ofTC lk hcd sc h0 len fun A outer s H vs Q E hr hsp => by
    obtain ⟨t, h1, h2⟩ := hbody f cdv A outer s H vs Q E hr hsp
    exact ⟨t, h1.run, h2⟩
theorem law0 (F : FunD K x x (defArgs st) (defBody st) (defScope st) [] [] f fd) (sc : FnScope N ps (defScope st)) (len : ∀ vs H Q E, sp vs H Q E → vs.length = ps.length)
    (hbody : ∀ (f : Addr) (cdv : Value) (A : Around) (outer : List Env) (s : Shared) (H : Hp) (vs : List V) (Q : VK) (E : XK), Room k (A.deeper (envOfC x (defScope st) s.heap.objs.size f cdv)) → sp vs H Q E →
      ∃ t, PSs (cxOf CX0 P w K mg base N x (defScope st) f cdv A outer s H E).nox (defBody st) t ∧ t { nx := fun _ H' => Q .non H', rt := Q } (L2.start N vs) H) : FnOk P w K mg base CX0 (k + 1) f fd ps sp := by
  refine F.ok sc len fun cdv A outer s H vs Q E hr hsp => ?_
  obtain ⟨t, h, q⟩ := hbody f cdv A outer s H vs Q E hr hsp
  exact ⟨t, h.nox, q⟩
theorem cst_int {i : Int} (h : ∃ t, mg x = some (.int i t)) : Cst mg x (.int i) := by
  obtain ⟨t, h⟩ := h
  exact ⟨_, h, ⟨t, rfl⟩⟩
theorem cst_ref {a : Addr} (h : mg x = some (.ref a)) : Cst mg x (.ref a) := ⟨_, h, rfl⟩
theorem cst_str {z : Str} (h : ∃ t, mg x = some (.str z t)) : Cst mg x (.str z) := by
  obtain ⟨t, h⟩ := h
  exact ⟨_, h, ⟨t, rfl⟩⟩
end
end Fx
/-! for i, x in enumerate(t), t a tuple; a list or a tuple -/
namespace Fx
open PySem PySem.Spec PyProof.Rows L2
open AutoSeq1 (wpAny_loadPart')
theorem enum_newT (l : Addr) (items : Array Value) (n : Nat) (dct : Option Addr) (sl : Array (Option Value)) :
    Meets (Builtin.«enumerate.__new__» ⟨[.type "enumerate", .ref l], []⟩) (fun _ R s => s.heap.get? l = some { cls := .type "tuple", dict := dct, data := .seq items n, slots := sl } ∧
      R (.ok (.ret (.ref (s.heap.push { cls := .type "tuple_iterator", data := .fields #[.ref l, .int 0 0] }).objs.size)))
        { s with heap := (s.heap.push { cls := .type "tuple_iterator", data := .fields #[.ref l, .int 0 0] }).push { cls := .type "enumerate", data := .fields #[.none, .bool false, .ref s.heap.objs.size, rawInt 0, .none, .none] } }) :=
  .of_wp fun prog w A R s h => by
    obtain ⟨hp, g, d, tk, os⟩ := s
    obtain ⟨hl, h⟩ := h
    have hsub := sub_enumerate
    have hL : Heap.IsTuple (Shared.heap ⟨hp, g, d, tk, os⟩) l items := ⟨_, hl, rfl, n, rfl⟩
    wp_walk using wpAny_loadPart' hl
    refine wpAny_stack_any fun st => wpAny_pure ?_
    split
    · rename_i c _ _ _ _ _
      cases (c == Value.type "enumerate")
      · wp_walk using wpAny_loadPart' hl, wpAny_pyIter_tuple hL
        exact ⟨_, rfl, h⟩
      · wp_walk using wpAny_loadPart' hl, wpAny_pyIter_tuple hL
        exact ⟨_, rfl, h⟩
    · wp_walk using wpAny_loadPart' hl, wpAny_pyIter_tuple hL
      exact ⟨_, rfl, h⟩
theorem call_enumT {prog : Program} {w : World} {A : Around} {E : Value → Shared → Prop} {s : Shared} {l : Addr} {items : Array Value} {Q : Value → Shared → Prop} (hL : s.heap.IsTuple l items)
    (h : ∀ h', IsEnum h' (s.heap.objs.size + 1) s.heap.objs.size 0 .none → h'.IsTupleIter s.heap.objs.size l 0 → h'.objs.size = s.heap.objs.size + 2 →
      (∀ b o, s.heap.get? b = some o → h'.get? b = some o) → Q (.ref (s.heap.objs.size + 1)) { s with heap := h' }) :
    wpAny (model prog w) A (call (.type "enumerate") [.ref l]) Q E s := by
  obtain ⟨⟨c, dct, dt, sl⟩, hl, hc, n, hd⟩ := hL
  replace hc : c = .type "tuple" := hc
  replace hd : dt = .seq items n := hd
  subst hc hd
  refine callType_new F.called_enumerate (by decide) (F.typeCall_enumerate_1 _) (F.newCall_enumerate_1 _) (fun obj => F.args_object_init_2 obj _) F.entry_enumerate_new
    (enum_newT l items n dct sl) ⟨hl, ?_⟩
  have hz : (s.heap.push { cls := .type "tuple_iterator", data := .fields #[.ref l, .int 0 0] }).objs.size = s.heap.objs.size + 1 := Heap.size_push ..
  show _ ∧ _
  rw [hz]
  have he : IsEnum ((s.heap.push { cls := .type "tuple_iterator", data := .fields #[.ref l, .int 0 0] }).push
      { cls := .type "enumerate", data := .fields #[.none, .bool false, .ref s.heap.objs.size, rawInt 0, .none, .none] }) (s.heap.objs.size + 1) s.heap.objs.size 0 .none := by
    have := Heap.get?_push_size (s.heap.push { cls := .type "tuple_iterator", data := .fields #[.ref l, .int 0 0] })
      (o := { cls := .type "enumerate", data := .fields #[.none, .bool false, .ref s.heap.objs.size, rawInt 0, .none, .none] }) rfl
    rw [hz] at this
    exact this
  exact ⟨⟨_, he, rfl⟩, h _ he ⟨_, Heap.get?_push_of_some _ (Heap.get?_push_size _ rfl), rfl, rfl⟩ (by rw [Heap.size_push, hz]) fun b o x => Heap.get?_push_of_some _ (Heap.get?_push_of_some _ x)⟩
def IteT (K : PySem.W.Frag) (a : Addr) : It :=
  ⟨fun i H => ∃ (xs : List V) (x : V), SqT K H a xs ∧ xs[i]? = some x, fun i H v H' => ∃ T x, v = .ref T ∧ H T = none ∧ H' = upd H T (.tup [.int (i : Nat), x]) ∧ ∀ xs, SqT K H a xs → xs[i]? = some x, fun i H => ∃ xs : List V, SqT K H a xs ∧ xs.length = i⟩
theorem turn_enumT {P : Program} {w : World} {K : PySem.W.Frag} {elts : List Expr} {kk : Nat} {tpos : Pos} (a e it : Addr) :
    Turn P w K (.Tuple elts kk tpos) (IteT K a) [e, it] e (fun i h => (∃ old, IsEnum h e it ((i : Nat) : Int) old) ∧ h.IsTupleIter it a i ∧ e ≠ it ∧ a ≠ e ∧ a ≠ it) where
  mem := by simp
  obj := fun i h st b hb => by
    obtain ⟨⟨old, he⟩, ⟨o, ho, hc, hd⟩, _⟩ := st
    have e' : b = e ∨ b = it := by simpa using hb
    rcases e' with z | z
    · rw [z]
      exact ⟨_, he, fun v q => nomatch q⟩
    · rw [z]
      exact ⟨o, ho, fun v q => by rw [hd] at q; cases q⟩
  keep := fun i h h' st k => let ⟨⟨old, he⟩, ⟨o, ho, hr⟩, hne⟩ := st; ⟨⟨old, k e (by simp) _ he⟩, ⟨o, k it (by simp) o ho, hr⟩, hne⟩
  item := by
    intro X hP hw hK hc i pins s σ H E I hf st hg
    subst hP hw hK
    obtain ⟨⟨old, he⟩, hit, hne, hae, hai⟩ := st
    obtain ⟨xs, x, hq, hx⟩ := hg
    obtain ⟨its, rv, p, hz⟩ := I.tuple hq
    obtain ⟨u0, hu0, ru⟩ := rv.get hx
    have hel : e < s.heap.objs.size := Heap.lt_size he
    have hil : it < s.heap.objs.size := by obtain ⟨_, q, _⟩ := hit; exact Heap.lt_size q
    have D := Draws.tuple (prog := X.prog) (w := X.w) (A := X.A.in1) (show X.A.in1.handled = none from I.ok.hd hc) it a hai its.toArray
    have hin : i < its.toArray.size := by
      have := (List.getElem?_eq_some_iff.mp hu0).1
      simpa using this
    refine wpAny_pyNext_enum_itemD D he ⟨hit, p⟩ hin hne (by simp [hne, Ne.symm hae]) fun u h' tk hu ho hit' hT hsz hk => ?_
    have eu : u = u0 := by
      have h1 : its[i]? = some u := by simpa using hu
      rw [hu0] at h1
      exact (Option.some.inj h1).symm
    subst eu
    refine ⟨_, rfl, wpAny_letOwnedTupleGo_enum (s := { s with heap := h', toks := tk + 1 }) ho fun h'' he' sb => ?_⟩
    have hT2 : h''.get? s.heap.objs.size = some { cls := .type "tuple", data := .seq #[.int i tk, u] } := (sb.2 _ (Nat.ne_of_gt hel)).trans hT
    have new : ObjOk X.prog X.w (upd H s.heap.objs.size (.tup [.int (i : Nat), x])) h'' s.heap.objs.size (.tup [.int (i : Nat), x]) :=
      ⟨by show 2 ≤ sizeLine; decide, [.int i tk, u], .cons ⟨_, rfl⟩ (.cons ru .nil), ⟨_, hT2, rfl, _, rfl⟩⟩
    have I1 : Inv X pins σ (upd H s.heap.objs.size (.tup [.int (i : Nat), x])) { s with heap := h'', toks := tk + 1 } :=
      I.turnedNew (ch := [e, it]) (fun b ob hb q => (sb.2 b (fun z => hb (by simp [z]))).trans (hk b ob (fun z => hb (by simp [z])) (fun z => hb (by simp [z])) q)) hf (Nat.le_refl _) new
    refine ⟨.ref s.heap.objs.size, _, I1, rfl, ⟨_, x, rfl, I.hok.fresh (Nat.le_refl _), rfl, fun ys hy => by rw [I.tuple_inj hy hq]; exact hx⟩, ⟨⟨u, ?_⟩, ?_, hne, hae, hai⟩, fun b hb => ?_⟩
    · have e1 : ((i + 1 : Nat) : Int) = (i : Int) + 1 := by omega
      rw [e1]
      exact he'
    · obtain ⟨⟨o, ho2, hr⟩, _⟩ := hit'
      exact ⟨o, (sb.2 it (Ne.symm hne)).trans ho2, hr⟩
    · have hb' : b < s.heap.objs.size := by
        have e' : b = e ∨ b = it := by simpa using hb
        rcases e' with z | z
        · rw [z]; exact hel
        · rw [z]; exact hil
      rw [upd_ne (Nat.ne_of_lt hb')]
      exact (hf b hb).1
  done := by
    intro X hP hw hK hc i pins s σ H E I hf st hg
    subst hP hw hK
    obtain ⟨⟨old, he⟩, hit, hne, hae, hai⟩ := st
    obtain ⟨xs, hq, hx⟩ := hg
    obtain ⟨its, rv, p, hz⟩ := I.tuple hq
    obtain ⟨f0, f1, f2, f3, f4, f5⟩ := hf it (by simp)
    have hl := rv.length
    have D := Draws.tuple (prog := X.prog) (w := X.w) (A := X.A.in1) (show X.A.in1.handled = none from I.ok.hd hc) it a hai its.toArray
    have hi : i = its.toArray.size := by
      rw [List.size_toArray]
      omega
    subst hi
    exact wpAny_pyNext_enum_endD D he ⟨hit, p⟩ fun h' eb => ⟨rfl, I.turned (t' := s.toks) (fun b o hb q => eb b o hb q) f0 f1 f3 f4 f5⟩
  self := fun A i s Q E st h => let ⟨⟨_, he⟩, _⟩ := st; wpAny_pyIter_enum he h
def iEnumT (K : PySem.W.Frag) (ta : TA) : TI := fun σ H R => ta σ H fun vs H1 => ∃ a xs, vs = [.ref a] ∧ SqT K H1 a xs ∧ R (IteT K a) H1
section
variable {X : Cx} {e : Expr} {ta : TA} {p pos tpos : Pos} {elts : List Expr} {kk : Nat}
theorem pi_enumT (hg : Gl X "enumerate") (hm : X.mg "enumerate" = none) (ha : PA X [e] ta) (hs : starEach [e] X.env = [(false, eval e X.env)] := by rfl) :
    PI X (.Tuple elts kk tpos) (.Call (.Name "enumerate" p) [e] [] pos) (iEnumT X.K ta) := by
  refine ⟨fun pins s σ H R I h => ?_⟩
  refine Call_ (ld_blt I hg hm boot_enumerate (PyProof.Rows.callWith_type1 (thn (ha.run pos pins s σ H _ I h) fun us s1 ⟨vs, H1, I1, r1, q1⟩ => ?_) hs rfl))
  obtain ⟨a, xs, ex, hq, q⟩ := q1
  subst ex
  cases r1 with
  | cons r rr =>
    cases rr
    cases r
    obtain ⟨its, rv, p', hz⟩ := I1.tuple hq
    have hla : a < s1.heap.objs.size := by
      obtain ⟨o, ho, _⟩ := p'
      exact Heap.lt_size ho
    refine call_enumT p' fun h' he hit hsz hk => wpAny_pyIter_enum he ?_
    have I2 : Inv X pins σ H1 { s1 with heap := h' } := I1.kept (t' := s1.toks) hk
    refine ⟨s1.heap.objs.size + 1, [s1.heap.objs.size + 1, s1.heap.objs.size], _, _, H1, rfl, I2, turn_enumT a (s1.heap.objs.size + 1) s1.heap.objs.size, ⟨⟨.none, he⟩, hit, Nat.succ_ne_self _, Nat.ne_of_lt (Nat.lt_succ_of_lt hla), Nat.ne_of_lt hla⟩, fun b hb => ?_, q⟩
    have e' : b = s1.heap.objs.size + 1 ∨ b = s1.heap.objs.size := by simpa using hb
    have hle : s1.heap.objs.size ≤ b := by
      rcases e' with z | z
      · rw [z]; exact Nat.le_add_right _ _
      · rw [z]; exact Nat.le_refl _
    exact I1.fpOk hle (I1.hok.fresh hle)
/-- a list or a tuple -/
def iEnumQ (K : PySem.W.Frag) (ta : TA) : TI := fun σ H R => iEnum K ta σ H R ∨ iEnumT K ta σ H R
theorem pi_enumQ (hg : Gl X "enumerate") (hm : X.mg "enumerate" = none) (ha : PA X [e] ta) (hs : starEach [e] X.env = [(false, eval e X.env)] := by rfl) :
    PI X (.Tuple elts kk tpos) (.Call (.Name "enumerate" p) [e] [] pos) (iEnumQ X.K ta) := by
  refine ⟨fun pins s σ H R I h => ?_⟩
  rcases h with h | h
  · exact (pi_enum hg hm ha hs).run pins s σ H R I h
  · exact (pi_enumT hg hm ha hs).run pins s σ H R I h
def iQ (K : PySem.W.Frag) (tl : TE) : TI := fun σ H R => iList K tl σ H R ∨ iTup K tl σ H R
theorem pi_Q {tg l : Expr} {tl : TE} (hl : PE X l tl) : PI X tg l (iQ X.K tl) := by
  refine ⟨fun pins s σ H R I h => ?_⟩
  rcases h with h | h
  · exact (pi_list hl).run pins s σ H R I h
  · exact (pi_tup hl).run pins s σ H R I h
end
/-- a list or a tuple that stands in the tracked heap -/
def Sq (H : Hp) (p : Addr) (xs : List V) : Prop := H p = some (.lst xs) ∨ H p = some (.tup xs)
theorem Sq.same {H H' : Hp} {p : Addr} {xs : List V} (h : Sq H p xs) (s : Same H H') : Sq H' p xs := by
  rcases h with h | h
  · exact .inl (s _ _ h)
  · exact .inr (s _ _ h)
section
variable {X : Cx}
def rIxQ : R2 := fun x y H Q => ∃ p i xs, x = .ref p ∧ y = .int i ∧ Sq H p xs ∧ ∃ v, atI xs i = some v ∧ Q v H
theorem ix_Q : IxR X rIxQ := by
  have h1 : IxR X rIxLt := ix_L
  have h2 : IxR X rIxTt := ix_T
  intro ve se pins s σ H x y v u Q I rx ry h hs
  obtain ⟨p, i, xs, e1, e2, hq, w, hw, q⟩ := h
  rcases hq with hq | hq
  · exact h1 ve se pins s σ H x y v u Q I rx ry ⟨p, i, xs, e1, e2, hq, w, hw, q⟩ hs
  · exact h2 ve se pins s σ H x y v u Q I rx ry ⟨p, i, xs, e1, e2, hq, w, hw, q⟩ hs
def rLenQ : List V → Hp → VK → Prop := fun vs H Q => ∃ p xs, vs = [.ref p] ∧ Sq H p xs ∧ Q (.int (xs.length : Nat)) H
theorem len_Q : CallR X (.builtin "len") rLenQ := CallR.imp call_len_seq fun vs H Q ⟨p, ys, e, h, q⟩ => ⟨p, ys, e, h.elim (fun h => .inl (.inl (.inl h))) (fun h => .inr (.inl (.inl h))), q⟩
def rTupQ : List V → Hp → VK → Prop := fun vs H Q => ∃ p xs, vs = [.ref p] ∧ Sq H p xs ∧ ∀ l H', Same H H' → H' l = some (.tup xs) → Q (.ref l) H'
theorem tup_Q : CallR X (.type "tuple") rTupQ := CallR.imp call_tuple_of fun vs H Q ⟨p, ys, e, h, q⟩ => ⟨p, ys, e, h.elim (fun h => .inl ⟨.inl (.inl h), fun l nl => q l _ (same_new nl) upd_same⟩) (fun h => .inr ⟨.inl (.inl h), q p H (Same.refl H) h⟩)⟩
def rTupL : List V → Hp → VK → Prop := fun vs H Q => ∃ p xs, vs = [.ref p] ∧ H p = some (.lst xs) ∧ ∀ l, H l = none → Q (.ref l) (upd H l (.tup xs))
theorem tup_L : CallR X (.type "tuple") rTupL := CallR.imp call_tuple_of fun vs H Q ⟨p, ys, e, h, q⟩ => ⟨p, ys, e, .inl ⟨.inl (.inl h), q⟩⟩
end
/-- the loop over enumerate(a list or a tuple) -/
theorem for_enumQ {K : PySem.W.Frag} {ta : TA} {a : Addr} {xs : List V} {g : TG} {tb : TS} {D : Ends} {σ : L2.St} {H : Hp} (hta : ∀ Q : List V → Hp → Prop, Q [.ref a] H → ta σ H Q) (hq : Sq H a xs) (Pv : Nat → L2.St → Hp → Prop) (h0 : Pv 0 σ H)
    (hl : ∀ i σ H', Pv i σ H' → ∀ o, H a = some o → H' a = some o)
    (hs : ∀ i x T σ H, xs[i]? = some x → Pv i σ H → H T = none → g (.ref T) σ (upd H T (.tup [.int (i : Nat), x])) fun σ' H' => tb { D with nx := Pv (i + 1), ct := Pv (i + 1), bk := D.nx } σ' H')
    (hd : ∀ σ H, Pv xs.length σ H → D.nx σ H) : tFor (iEnumQ K ta) g tb D σ H := by
  rcases hq with hq | hq
  · refine .inl (hta _ ⟨a, xs, rfl, .inl (.inl hq), ?_⟩)
    refine ⟨fun i m σ H' => m = xs.length - i ∧ i ≤ xs.length ∧ Pv i σ H', ⟨_, rfl, Nat.zero_le _, h0⟩, ?_⟩
    rintro i m σ H' ⟨rfl, hi, p⟩
    have hk : SqL K H' a xs := .inl (.inl (hl i σ H' p _ hq))
    by_cases hlt : i < xs.length
    · refine .inr ⟨⟨xs, xs[i], hk, by simp [hlt]⟩, fun σ' H' => Pv (i + 1) σ' H', fun σ' H' q => ⟨xs.length - (i + 1), by omega, rfl, hlt, q⟩, fun x H2 hy => ?_⟩
      obtain ⟨T, c, rfl, nT, rfl, hc⟩ := hy
      exact hs i c T σ H' (hc xs hk) p nT
    · have ei : i = xs.length := by omega
      subst ei
      exact .inl ⟨⟨xs, hk, Nat.le_refl _⟩, hd σ H' p⟩
  · refine .inr (hta _ ⟨a, xs, rfl, .inl (.inl hq), ?_⟩)
    refine ⟨fun i m σ H' => m = xs.length - i ∧ i ≤ xs.length ∧ Pv i σ H', ⟨_, rfl, Nat.zero_le _, h0⟩, ?_⟩
    rintro i m σ H' ⟨rfl, hi, p⟩
    have hk : SqT K H' a xs := .inl (.inl (hl i σ H' p _ hq))
    by_cases hlt : i < xs.length
    · refine .inr ⟨⟨xs, xs[i], hk, by simp [hlt]⟩, fun σ' H' => Pv (i + 1) σ' H', fun σ' H' q => ⟨xs.length - (i + 1), by omega, rfl, hlt, q⟩, fun x H2 hy => ?_⟩
      obtain ⟨T, c, rfl, nT, rfl, hc⟩ := hy
      exact hs i c T σ H' (hc xs hk) p nT
    · have ei : i = xs.length := by omega
      subst ei
      exact .inl ⟨⟨xs, hk, rfl⟩, hd σ H' p⟩
section
variable {X : Cx}
theorem shaped_flatT {xs : List V} (hx : xs.all isF = true) : SeqAt.shaped (.tuple (xs.map datV)) = true := by
  obtain ⟨h1, h2⟩ := lay_flat hx
  simp [SeqAt.shaped, PyData.canLay0, PyData.depth, h1, h2]
def rNeL : R2 := fun x y H Q => ∃ p q xs ys, x = .ref p ∧ y = .ref q ∧ H p = some (.lst xs) ∧ H q = some (.lst ys) ∧ xs.all isF = true ∧ ys.all isF = true ∧ Q (.bl (!decide (xs = ys))) H
def rNeT : R2 := fun x y H Q => ∃ p q xs ys, x = .ref p ∧ y = .ref q ∧ H p = some (.tup xs) ∧ H q = some (.tup ys) ∧ xs.all isF = true ∧ ys.all isF = true ∧ Q (.bl (!decide (xs = ys))) H
def rEqT : R2 := fun x y H Q => ∃ p q xs ys, x = .ref p ∧ y = .ref q ∧ H p = some (.tup xs) ∧ H q = some (.tup ys) ∧ xs.all isF = true ∧ ys.all isF = true ∧ Q (.bl (decide (xs = ys))) H
theorem ne_LL (hu : X.A.units + 64 < cLine) : OpR X (compareOp .NotEq) rNeL := by
  intro pins s σ H x y v u Q I rx ry h
  obtain ⟨p, q, xs, ys, rfl, rfl, hp, hq, fx, fy, k⟩ := h
  refine op_neD hu pins s σ H _ _ v u Q I rx ry ⟨.list (xs.map datV), .list (ys.map datV), .lst (.inl (.inl hp)) (dpAll_dat fx), .lst (.inl (.inl hq)) (dpAll_dat fy), shaped_flat fx, shaped_flat fy, ?_⟩
  rw [PyData.eqv, eqvAll_dat fx fy]
  exact k
theorem ne_TT (hu : X.A.units + 64 < cLine) : OpR X (compareOp .NotEq) rNeT := by
  intro pins s σ H x y v u Q I rx ry h
  obtain ⟨p, q, xs, ys, rfl, rfl, hp, hq, fx, fy, k⟩ := h
  refine op_neD hu pins s σ H _ _ v u Q I rx ry ⟨.tuple (xs.map datV), .tuple (ys.map datV), .tup (.inl (.inl hp)) (dpAll_dat fx), .tup (.inl (.inl hq)) (dpAll_dat fy), shaped_flatT fx, shaped_flatT fy, ?_⟩
  rw [PyData.eqv, eqvAll_dat fx fy]
  exact k
theorem eq_TT (hu : X.A.units + 64 < cLine) : OpR X (compareOp .Eq) rEqT := by
  intro pins s σ H x y v u Q I rx ry h
  obtain ⟨p, q, xs, ys, rfl, rfl, hp, hq, fx, fy, k⟩ := h
  refine op_eqD hu pins s σ H _ _ v u Q I rx ry ⟨.tuple (xs.map datV), .tuple (ys.map datV), .tup (.inl (.inl hp)) (dpAll_dat fx), .tup (.inl (.inl hq)) (dpAll_dat fy), shaped_flatT fx, shaped_flatT fy, ?_⟩
  rw [PyData.eqv, eqvAll_dat fx fy]
  exact k
theorem all_int (ns : List Int) : (ns.map V.int).all isF = true := by simp [isF]
theorem map_int_inj {a b : List Int} : a.map V.int = b.map V.int ↔ a = b := by
  constructor
  · intro h
    induction a generalizing b with
    | nil => cases b with
      | nil => rfl
      | cons y b => cases h
    | cons x a ih => cases b with
      | nil => cases h
      | cons y b =>
        simp only [List.map_cons, List.cons.injEq, V.int.injEq] at h
        rw [h.1, ih h.2]
  · intro h
    rw [h]
/-- len of a list or a tuple -/
def rMin2 : List V → Hp → VK → Prop := fun xs H Q => ∃ i j, xs = [.int i, .int j] ∧ Q (.int (if j < i then j else i)) H
theorem min_2 (hc : X.calm = true) : CallR X (.builtin "min") rMin2 := call_min2 hc
def rAnd255 : R2 := fun x y H Q => ∃ i : Int, x = .int i ∧ y = .int 255 ∧ Q (.int (i % 256)) H
theorem and_255 {X : Cx} : OpR X (binaryOp .BitAnd) rAnd255 := by
  intro pins s σ H x y v u Q I rx ry h
  obtain ⟨i, rfl, rfl, q⟩ := h
  exact op_andM pins s σ H _ _ v u Q I rx ry ⟨i, 8, rfl, rfl, q⟩
def rNonIs : R2 := fun x y H Q => y = .non ∧ Q (.bl (decide (x = .non))) H
theorem op_isNon : OpR X (compareOp .Is) rNonIs := op_isN
def rNonNot : R2 := fun x y H Q => y = .non ∧ Q (.bl (!decide (x = .non))) H
theorem op_notNon : OpR X (compareOp .IsNot) rNonNot := op_notN
def rIns : V → List V → Hp → VK → Prop := fun x vs H Q => ∃ (l : Addr) (xs : List V) (i : Int) (y : V), x = .ref l ∧ vs = [.int i, y] ∧ H l = some (.lst xs) ∧ xs.length < sizeLine ∧ 0 ≤ i ∧ i < 2 ^ 63 ∧ Q .non (upd H l (.lst (xs.take i.toNat ++ [y] ++ xs.drop i.toNat)))
theorem mt_ins : MtR X "list.insert" rIns := mt_insert
open AutoSeq1 in
theorem extend_tuple (l : Addr) (items : Array Value) (n : Nat) (b : Addr) (items2 : Array Value) (n2 : Nat) (dct : Option Addr) (sl : Array (Option Value)) (hs0 : ¬(!items.isEmpty && Builtin.List.listTooLong (items.size + items2.size)) = true) (hs1 : items.size ≤ sizeLine) (hs2 : items.size + items2.size ≤ sizeLine + 1) :
    Meets (Builtin.«list.extend» ⟨[.ref l, .ref b], []⟩) (fun _ R s => s.heap.get? l = some { cls := .type "list", dict := none, data := .seq items n, slots := #[] } ∧ s.heap.get? b = some { cls := .type "tuple", dict := dct, data := .seq items2 n2, slots := sl } ∧ R (.ok (.ret Value.none)) { s with heap := s.heap.update l (Obj.mapSeq fun x => x ++ items2), toks := s.toks }) :=
  .of_wp fun prog w A R s h => by
    obtain ⟨hp, g, d, tk, os⟩ := s
    obtain ⟨hl, hb, h⟩ := h
    have f1 := idx_int
    have f2 := AutoSeq1.sub_tuple_tuple
    have f3 := AutoSeq1.sub_list_list
    have f4 := AutoSeq1.sub_tuple_list
    have f5 := AutoSeq1.sub_list_tuple
    have hz' : (items ++ items2).size ≤ sizeLine + 1 := by rw [Array.size_append]; exact hs2
    wp_walk using (wpAny_updateSeq hl rfl (hz := hs1) (_hz' := hz')), wpAny_loadPart' hl, wpAny_loadPart' hb
    exact ⟨_, rfl, h⟩
def rExtQ : V → List V → Hp → VK → Prop := fun x vs H Q => ∃ l b xs zs, x = .ref l ∧ vs = [.ref b] ∧ H l = some (.lst xs) ∧ Sq H b zs ∧ xs.length + zs.length ≤ sizeLine ∧ Q .non (upd H l (.lst (xs ++ zs)))
theorem mt_extQ : MtM X "list.extend" rExtQ := by
  intro pins s σ H x vs v us Q I rx rv h
  obtain ⟨l, b, xs, zs, rfl, rfl, hH, hB, hz, q⟩ := h
  rcases hB with hB | hB
  · exact mt_extend pins s σ H _ _ v us Q I rx rv ⟨l, b, xs, zs, rfl, rfl, hH, hB, hz, q⟩
  cases rx
  obtain ⟨u, rfl, ru⟩ := rv.one
  cases ru
  obtain ⟨z, its, n, r, hl, e⟩ := I.lstM hH
  obtain ⟨its2, r2, ⟨⟨c2, d2, dt2, sl2⟩, e2, hc2, n2, hd2⟩, hz2⟩ := I.tuple (.inl (.inl hB))
  have hl2 := r2.length
  replace hc2 : c2 = .type "tuple" := hc2
  replace hd2 : dt2 = .seq its2.toArray n2 := hd2
  subst hc2 hd2
  have hsz : its.toArray.size + its2.toArray.size ≤ sizeLine := by rw [List.size_toArray, List.size_toArray]; omega
  have hlong : ¬ (!its.toArray.isEmpty && Builtin.List.listTooLong (its.toArray.size + its2.toArray.size)) = true := by
    rw [notLongL hsz, Bool.and_false]
    exact Bool.false_ne_true
  refine call_meets F.slot_list_extend ⟨_, e, rfl⟩ F.entry_list_extend (F.args_list_extend_2 _ _)
    (extend_tuple l its.toArray n b its2.toArray n2 d2 sl2 hlong (by rw [List.size_toArray]; omega) (by omega)) ⟨e, e2, ?_⟩
  refine ⟨.non, _, I.lset (its' := its ++ its2) hH e (by simp) (r.append r2) ?_, rfl, q⟩
  rw [List.length_append]
  omega
def rSlQ : V → Option Int → Option Int → Hp → VK → Prop := fun x lo hi H Q => ∃ a xs, x = .ref a ∧ Sq H a xs ∧ ∀ p H', Same H H' → Sq H' p (cutV xs lo hi) → Q (.ref p) H'
theorem sl_Q : SlR X rSlQ := by
  intro pins s σ H x v vl vu lo hi sl Q I rx hs pl pu h
  obtain ⟨a, xs, rfl, hx, q⟩ := h
  rcases hx with hx | hx
  · exact sl_L pins s σ H _ v vl vu lo hi sl Q I rx hs pl pu ⟨a, xs, rfl, hx, fun p np => q p _ (same_new np) (.inl upd_same)⟩
  · refine sl_tupA pins s σ H _ v vl vu lo hi sl Q I rx hs pl pu ⟨a, xs, rfl, .inl (.inl hx), fun hw => ?_, fun _ p np => q p _ (same_new np) (.inr upd_same)⟩
    have e : cutV xs lo hi = xs := by
      unfold cutV
      rw [hw.1, hw.2]
      simp
    exact q a H (Same.refl H) (by rw [e]; exact .inr hx)
end
end Fx
/-! Own classes: attribute targets, methods by promise; defs that know that no repr is under way (FnG) -/
namespace Fx
open PySem PySem.Spec PyProof.Rows L2
section
variable {X : Cx} {o : Expr} {to : TE} {f : Str} {pos : Pos}
/-- .. , o.f, .. = value -/
def gFld (K : PySem.W.Frag) (to : TE) (f : Str) : TG := fun v σ H Q => to σ H fun x H1 => ∃ a C dx fs, x = .ref a ∧ H1 a = some (.ins C dx fs) ∧ Cls K C ∧ NoAttr K C f ∧ fs.length < 1000 ∧ Q σ (upd H1 a (.ins C dx (putF f v fs)))
theorem pg_fld (ho : PE X o to) : PG X (.Attribute o f pos) (gFld X.K to f) := by
  refine ⟨fun pins s σ H v u Q I r h => ?_⟩
  rw [assign_Attribute]
  refine wpAny_bind (wpAny_holding (thn (ho.run pins s σ H _ I h) fun ov s1 ⟨x, H1, I1, r1, a, C, dx, fs, ex, ea, c, n, l, q⟩ => ?_))
  subst ex
  obtain rfl : ov = Value.ref a := r1
  refine wpAny_bind (wpAny_standAt (wpAny_bind (wpAny_holding (setattr_ok I1 ea c n l r fun s3 I3 => ?_))))
  exact wpAny_release ⟨σ, _, I3, q⟩
end
/-! ### methods, makers -/
structure CalM (P : Program) (w : World) (K : PySem.W.Frag) (mg : Str → Option Value) (base : Heap) (CX : CXT) (k : Nat) (C : Addr) (m : Str) (ps : List Str) (sp : Sp) : Prop where
  ex : ∃ f fd, Meth K C m f ∧ Binds K fd ps [] ∧ FnOk P w K mg base CX k f fd ps sp
structure CalI (P : Program) (w : World) (K : PySem.W.Frag) (mg : Str → Option Value) (base : Heap) (CX : CXT) (k : Nat) (C : Addr) (ps : List Str) (sp : Sp) : Prop where
  ex : ∃ f fd, Mk K C f ∧ Binds K fd ps [] ∧ FnOk P w K mg base CX k f fd ps sp
section
variable {X : Cx} {x : Str} {C : Addr} {ps : List Str} {sp : Sp} {k : Nat} {CX : CXT} {E : XK} {e : Expr} {es : List Expr} {t : TA} {p pos : Pos}
/-- C(e, ..) -/
theorem pe_mk (M : CalI X.prog X.w X.K X.mg X.base CX k C ps sp) (hr : Room (k + 1) X.A) (hm : X.mg x = some (.ref C)) (hx : Passes CX X E) (ha : PA X (e :: es) t) (hg : Gl X x := by rfl) (hdb : (x == ("__debug__" : Str)) = false := by decide)
    (hs : (e :: es).all nostar = true := by rfl) : PE X (.Call (.Name x p) (e :: es) [] pos) (tMake C sp [] E t) := by
  obtain ⟨f, fd, m, b, F⟩ := M.ex
  simp only [List.all_cons, Bool.and_eq_true] at hs
  exact pe_make m F hr hg hm b .nil hx ha hdb (star_ok hs.1) (back_ok hs.2)
end
/-! ### a method's body -/
abbrev BindQ (x q : Str) (st : Stmt) (ps : List Str) : Prop := ∀ (kV doc pm : Value) (an : Option Addr) (cdv ct : Value) (us : List Value), us.length = ps.length → bindArgs (PySem.W.fnOf x q (defArgs st) (defBody st) (defScope st) .none kV doc pm an cdv ct) ⟨us, []⟩ = pure (ps.zip us)
section
variable {P : Program} {w : World} {K : PySem.W.Frag} {mg : Str → Option Value} {base : Heap} {x qual : Str} {st : Stmt} {N ps : List Str} {k : Nat} {sp : Sp} {f : Addr} {fd : FuncData}
theorem ok0 (F : FunD K x qual (defArgs st) (defBody st) (defScope st) [] [] f fd) (sc : FnScope N ps (defScope st)) (len : ∀ vs H Q E, sp vs H Q E → vs.length = ps.length)
    (hbody : ∀ (f : Addr) (cdv : Value) (A : Around) (outer : List Env) (s : Shared) (H : Hp) (vs : List V) (Q : VK) (E : XK), Room k (A.deeper (envOfC qual (defScope st) s.heap.objs.size f cdv)) → sp vs H Q E →
      ∃ t, PSs (cxOf CX0 P w K mg base N qual (defScope st) f cdv A outer s H E).nox (defBody st) t ∧ t { nx := fun _ H' => Q .non H', rt := Q } (L2.start N vs) H) : FnOk P w K mg base CX0 (k + 1) f fd ps sp := by
  refine F.ok sc len fun cdv A outer s H vs Q E hr hsp => ?_
  obtain ⟨t, h, q⟩ := hbody f cdv A outer s H vs Q E hr hsp
  exact ⟨t, h.nox, q⟩
theorem okX (F : FunD K x qual (defArgs st) (defBody st) (defScope st) [] [] f fd) (sc : FnScope N ps (defScope st)) (len : ∀ vs H Q E, sp vs H Q E → vs.length = ps.length)
    (hbody : ∀ (f : Addr) (cdv : Value) (A : Around) (outer : List Env) (s : Shared) (H : Hp) (vs : List V) (Q : VK) (E : XK), Room k (A.deeper (envOfC qual (defScope st) s.heap.objs.size f cdv)) → sp vs H Q E →
      ∃ t, PSs (cxOf (L2.CX P w) P w K mg base N qual (defScope st) f cdv A outer s H E) (defBody st) t ∧ t { nx := fun _ H' => Q .non H', rt := Q } (L2.start N vs) H) : FnOk P w K mg base (L2.CX P w) (k + 1) f fd ps sp :=
  F.ok sc len fun cdv A outer s H vs Q E hr hsp => hbody f cdv A outer s H vs Q E hr hsp
end
/-! ### no repr is under way: guards = some [] -/
structure FnG (P : Program) (w : World) (K : PySem.W.Frag) (mg : Str → Option Value) (base : Heap) (CX : CXT) (k : Nat) (f : Addr) (fd : FuncData) (ps : List Str) (sp : Sp) : Prop where
  len : ∀ vs H Q E, sp vs H Q E → vs.length = ps.length
  run : ∀ (A : Around) (outer : List Env) (s : Shared) (H : Hp) (args : Args) (us : List Value) (vs : List V) (Q : VK) (E : XK), A.guards = some [] → Room k A → Env0 P w K mg base A outer s H → BindsTo s fd args (ps.zip us) → Vals vs us → sp vs H Q E →
    codeAny (model P w) A (.call (.ref f) args) (CR CX outer P w H s Q E) s
section
variable {P : Program} {w : World} {K : PySem.W.Frag} {mg : Str → Option Value} {base : Heap} {CX : CXT} {k : Nat} {f : Addr} {fd : FuncData} {N ps : List Str} {sp : Sp}
theorem FnG.of (F : FnOk P w K mg base CX k f fd ps sp) : FnG P w K mg base CX k f fd ps sp := ⟨F.len, fun A outer s H args us vs Q E _ hr e0 hb hv hs => F.run A outer s H args us vs Q E hr e0 hb hv hs⟩
/-- a def whose body may use that no repr is under way -/
theorem fn_ofG {name qual : Str} {params : Arguments} {body : List Stmt} {scope : Scope} {dV kV doc pm cdv ct oc : Value} {an od : Option Addr} {osl : Array (Option Value)}
    (lk : K.lookup f = some ⟨oc, od, .func (PySem.W.fnOf name qual params body scope dV kV doc pm an cdv ct), osl⟩) (hcd : PySem.W.codeIn K cdv qual = true) (S : FnScope N ps scope) (len : ∀ vs H Q E, sp vs H Q E → vs.length = ps.length)
    (hbody : ∀ (A : Around) (outer : List Env) (s : Shared) (H : Hp) (vs : List V) (Q : VK) (E : XK), A.guards = some [] → Room k (A.deeper (envOfC qual scope s.heap.objs.size f cdv)) → sp vs H Q E →
      ∃ t, PSs (cxOf CX P w K mg base N qual scope f cdv A outer s H E) body t ∧ t { nx := fun _ H' => Q .non H', rt := Q } (L2.start N vs) H) :
    FnG P w K mg base CX (k + 1) f (PySem.W.fnOf name qual params body scope dV kV doc pm an cdv ct) ps sp := by
  constructor
  · exact len
  intro A outer s H args us vs Q E hG hr e0 hb r hsp
  have hl := len _ _ _ _ hsp
  have kin : K.In s.heap := e0.mod.kin.keeps fun b o e => (e0.bs b o e).1
  have nol : s.heap.NoLimit := e0.mod.nolimit.keeps fun b o e => (e0.bs b o e).1
  have kinds : ∀ y ∈ ps.zip us, scope.names.lookup y.1 = some .local ∨ (scope.names.lookup y.1 = some .cell ∧ ((cellsFrom (s.heap.objs.size + 1) scope.names []).lookup y.1).isSome = true) := by
    rintro ⟨n, v⟩ hy
    rcases S.par n (List.of_mem_zip hy).1 with q | q
    · left; exact q
    · right; exact ⟨q, PySem.W.cellsFrom_some _ _ _ (.inl q)⟩
  refine codeAny_call_function hr.depth (kin _ _ lk) rfl S.co S.gen rfl (PySem.W.codeRec_of kin hcd) (hb _ _ _ _ (wpAny_newFunctionEnv_cells S.kind kinds fun env he s1 x => ?_))
  subst he
  refine ⟨nol.keeps x.toInCall.keep, codeAny_func ?_⟩
  obtain ⟨t, ht, hq⟩ := hbody A outer s H vs Q E hG (hr.deeper _) hsp
  refine wpAny_mono (ht.run [] s1 (L2.start N vs) H _ (inv_start S hr.hd e0 hl r x) hq) (fun fl s' hs => ?_) fun e s' hs => hs
  have done : ∀ {σ' : L2.St} {H' : Hp} {v : V} {u : Value}, Inv (cxOf CX P w K mg base N qual scope f cdv A outer s H E) [] σ' H' s' → RelV v u → Q v H' → CE outer P w H s Q u s' := by
    intro σ' H' v u J rv q
    exact ⟨v, H', J.os, J.bare, J.base, J.hok, rv, q⟩
  cases fl with
  | ret u => obtain ⟨v, σ', H', J, rv, q⟩ := hs; exact done J rv q
  | next => obtain ⟨σ', H', J, q⟩ := hs; exact done (v := V.non) (u := Value.none) J rfl q
  | brk => obtain ⟨_, _, _, q⟩ := hs; exact q.elim
  | cont => obtain ⟨_, _, _, q⟩ := hs; exact q.elim
end
structure CalG (P : Program) (w : World) (K : PySem.W.Frag) (mg : Str → Option Value) (base : Heap) (CX : CXT) (k : Nat) (x : Str) (ps : List Str) (sp : Sp) : Prop where
  ex : ∃ f fd, mg x = some (.ref f) ∧ PySem.W.keepIn K (.ref f) = true ∧ Binds K fd ps [] ∧ FnG P w K mg base CX k f fd ps sp
section
variable {P : Program} {w : World} {K : PySem.W.Frag} {mg : Str → Option Value} {base : Heap} {x : Str} {st : Stmt} {N ps : List Str} {k : Nat} {sp : Sp} {f : Addr} {fd : FuncData}
theorem lawG (F : FunD K x x (defArgs st) (defBody st) (defScope st) [] [] f fd) (sc : FnScope N ps (defScope st)) (len : ∀ vs H Q E, sp vs H Q E → vs.length = ps.length)
    (hbody : ∀ (f : Addr) (cdv : Value) (A : Around) (outer : List Env) (s : Shared) (H : Hp) (vs : List V) (Q : VK) (E : XK), A.guards = some [] → Room k (A.deeper (envOfC x (defScope st) s.heap.objs.size f cdv)) → sp vs H Q E →
      ∃ t, PSs (cxOf CX0 P w K mg base N x (defScope st) f cdv A outer s H E).nox (defBody st) t ∧ t { nx := fun _ H' => Q .non H', rt := Q } (L2.start N vs) H) : FnG P w K mg base CX0 (k + 1) f fd ps sp := by
  obtain ⟨oc, od, dV, kV, doc, pm, an, cdv, ct, osl, rfl, lk, hcd, _, _⟩ := F.ex
  refine fn_ofG lk hcd sc len fun A outer s H vs Q E hG hr hsp => ?_
  obtain ⟨t, h, q⟩ := hbody f cdv A outer s H vs Q E hG hr hsp
  exact ⟨t, h.nox, q⟩
theorem Src.calG (S : Src K mg x st) (sc : FnScope N ps (defScope st)) (bn : BindP x st ps) (len : ∀ vs H Q E, sp vs H Q E → vs.length = ps.length)
    (hbody : ∀ (f : Addr) (cdv : Value) (A : Around) (outer : List Env) (s : Shared) (H : Hp) (vs : List V) (Q : VK) (E : XK), A.guards = some [] → Room k (A.deeper (envOfC x (defScope st) s.heap.objs.size f cdv)) → sp vs H Q E →
      ∃ t, PSs (cxOf CX0 P w K mg base N x (defScope st) f cdv A outer s H E).nox (defBody st) t ∧ t { nx := fun _ H' => Q .non H', rt := Q } (L2.start N vs) H) : CalG P w K mg base CX0 (k + 1) x ps sp := by
  obtain ⟨f, fd, g, F⟩ := S
  exact ⟨f, fd, g, F.kp, F.bindsN bn, lawG F sc len hbody⟩
end
section
variable {X : Cx} {x : Str} {ps : List Str} {sp : Sp} {k : Nat} {CX : CXT} {E : XK} {e : Expr} {es : List Expr} {t : TA} {p pos : Pos}
/-- f(e, ..) where no repr is under way -/
theorem pe_calG (C : CalG X.prog X.w X.K X.mg X.base CX k x ps sp) (hG : X.A.guards = some []) (hr : Room k X.A) (hx : Passes CX X E) (ha : PA X (e :: es) t) (hg : Gl X x := by rfl) (hdb : (x == ("__debug__" : Str)) = false := by decide)
    (hs : (e :: es).all nostar = true := by rfl) : PE X (.Call (.Name x p) (e :: es) [] pos) (tCall sp [] E t) := by
  obtain ⟨f, fd, g, kp, b, F⟩ := C.ex
  simp only [List.all_cons, Bool.and_eq_true] at hs
  refine ⟨fun pins s σ H Q I h => wpAny_Call_Name_kw (ld_glob I hg g ?_ hdb)⟩
  refine PySem.W.callWith_K (h₀ := X.base) I.ok.mod.kin kp (thn (ha.run pos pins s σ H _ I h) fun us s1 ⟨vs, H1, I1, r, q⟩ => ⟨I1.kIn, ?_⟩) (star_ok hs.1) (back_ok hs.2)
  have q2 : sp vs H1 Q E := by
    have q' : sp (vs ++ []) H1 Q E := q
    rw [List.append_nil] at q'
    exact q'
  have hl : us.length = ps.length := by rw [← r.length]; exact F.len _ _ _ _ q2
  have hb : BindsTo s1 fd ⟨us, []⟩ (ps.zip us) := by
    have := b s1 us I1.kIn (by rw [List.append_nil]; exact hl)
    rw [List.append_nil] at this
    exact this
  refine wpAny_call (codeAny_mono (F.run X.A X.stack s1 H1 ⟨us, []⟩ us vs Q E hG hr I1.env0 hb r q2) fun r s' hq => ?_)
  cases r with
  | error e => exact hx pins σ H1 s1 e s' I1 hq
  | ok fl => cases fl with
    | ret u => exact I1.after hq
    | next => exact hq.elim
    | brk => exact hq.elim
    | cont => exact hq.elim
end
/-! ### repr of data -/
def rRepr (K : PySem.W.Frag) : List V → Hp → VK → Prop := fun xs H Q => ∃ (x : V) (d : PyData), xs = [x] ∧ Dp K H x d ∧ d.showable = true ∧ d.hasDict = false ∧ d.depth ≤ 50 ∧ d.shown.length ≤ sizeLine ∧ Q (.str d.shown) H
theorem call_reprD {X : Cx} (hG : X.A.guards = some []) (hu : X.A.units + 64 < cLine) : CallR X (.builtin "repr") (rRepr X.K) := by
  intro pins s σ H xs us Q I rx h
  obtain ⟨x, d, rfl, hd, sh, nd, dp, hz, q⟩ := h
  obtain ⟨u, rfl, ru⟩ := rx.one
  obtain ⟨as, rd⟩ := Dp.reads I d x u hd ru
  have fin : ∀ h' tk0 tk, (∀ b o, s.heap.get? b = some o → h'.get? b = some o) → EP X pins σ Q (.str d.shown tk0) { s with heap := h', toks := tk } := fun h' tk0 tk hk => ⟨.str d.shown, H, I.kept hk, ⟨_, rfl⟩, q⟩
  have tok : ∀ tk0 tk, EP X pins σ Q (.str d.shown tk0) { s with toks := tk } := fun tk0 tk => ⟨.str d.shown, H, I.tok _, ⟨_, rfl⟩, q⟩
  cases hd with
  | non => cases ru; exact P.repr_of_none (tok _ _)
  | bl b => cases ru; exact P.repr_of_bool (by cases b <;> exact tok _ _)
  | int i =>
    obtain ⟨t, rfl⟩ := ru
    exact P.repr_of_int (by simpa [PyData.showable] using sh) (tok _ _)
  | str z =>
    obtain ⟨t, rfl⟩ := ru
    exact P.repr_of_str (tok _ _) hz
  | lst h1 h2 =>
    cases ru
    exact repr_of_reads' rd sh (fun z => by rw [nd] at z; cases z) hG (by omega) (fun b o e => e) (fun h' u tk hk => fin h' u tk hk) hz
  | tup h1 h2 =>
    cases ru
    exact repr_of_reads' rd sh (fun z => by rw [nd] at z; cases z) hG (by omega) (fun b o e => e) (fun h' u tk hk => fin h' u tk hk) hz
theorem call_reprK {X : Cx} {K : PySem.W.Frag} (hK : X.K = K) (hG : X.A.guards = some []) (hu : X.A.units + 64 < cLine) : CallR X (.builtin "repr") (rRepr K) := by
  subst hK
  exact call_reprD hG hu
end Fx
/-! A law's end where the law's def knows that no repr is under way -/
namespace Fx
open PySem PySem.Spec PyProof.Rows L2
section
variable {P : Program} {w : World} {K : PySem.W.Frag} {mg mb : Str → Option Value} {CX : CXT} {k : Nat} {fa a : Addr} {fd : FuncData} {x : Str} {sp : Sp} {z : Shared} {vs : List Value} {ns : List Int}
/-- the law's call from a heap that tracks the script at most -/
theorem endG_from {H : Hp} (KX : K.In z.heap) (hns : z.heap.Ns mainGlobals mg) (hb : z.heap.Ns builtinsNs mb) (hbb : ∀ x : Str, x ≠ "__name__" → mb x = bootBuiltins x) (hlim : z.heap.NoLimit) (hg : z.gens = #[])
    (ha : z.heap.get? a = some { cls := .type "list", data := .seq vs.toArray }) (hr : Room k callerA) (F : ∀ base : Heap, K.In base → base.Ns mainGlobals mg → FnG P w K mg base CX k fa fd [x] sp)
    (hbind : ∀ (s : Shared) (u : Value), BindsTo s fd ⟨[u], []⟩ [(x, u)]) (hCX : ∀ H e s', CX [] H z (fun _ _ _ => False) e s' → False) (hO : Only H) (hp : sp [.ref a] H (fun v _ => v = .bl true) fun _ _ _ => False)
    (hok : HOk P w H z.heap) (only : ∀ b, H b ≠ none → b = a) (hK : H a ≠ none → K.lookup a = none) :
    codeAny (model P w) callerA (.call (.ref fa) ⟨[.ref a], []⟩) (fun r s' => r = .ok (.ret (.bool true)) ∧ OldK z.heap s'.heap ∧ s'.os = z.os ∧ AllBare s'.gens) z := by
  -- what is not the script is not tracked
  have free : ∀ {b : Addr}, b ≠ a → H b = none := by
    intro b hn
    cases q : H b with
    | none => rfl
    | some u => exact absurd (only b (by rw [q]; intro y; cases y)) hn
  have keepNs : ∀ {b : Addr} {m : Str → Option Value}, z.heap.Ns b m → (hidT z.heap H).Ns b m := by
    rintro b m ⟨o, es, ep, e, d, r⟩
    refine ⟨o, es, ep, hidT_get e (free ?_), d, r⟩
    intro q
    rw [q, ha] at e
    cases e
    cases (show Data.seq vs.toArray _ = Data.dict es ep from d)
  have keepK : K.In (hidT z.heap H) := by
    intro b o e
    refine hidT_get (KX b o e) ?_
    cases q : H b with
    | none => rfl
    | some u =>
      have eb := only b (by rw [q]; intro y; cases y)
      rw [eb] at e q
      rw [hK (by rw [q]; intro y; cases y)] at e
      cases e
  obtain ⟨mc, l1, l2⟩ := hlim
  have hM : Mod K mg (hidT z.heap H) := ⟨keepK, keepNs hns, ⟨mb, keepNs hb, hbb⟩, ⟨mc, keepNs l1, l2⟩⟩
  have none_ : ∀ b : Addr, b ∉ ([] : List Addr) := fun b h => by cases h
  have e0 : Env0 P w K mg (hidT z.heap H) callerA [] z H := ⟨rfl, hM, fun b o e => of_hidT e, Nat.le_of_eq (hidT_size _ _), trivial, fun b q => absurd (show b ∈ ([] : List Addr) from q) (none_ b), hok, .of_eq hg⟩
  have run := (F _ keepK (keepNs hns)).run callerA [] z H ⟨[.ref a], []⟩ [.ref a] [.ref a] _ _ rfl hr e0 (hbind z (.ref a)) (.cons rfl .nil) hp
  refine codeAny_mono run fun r s' h => ?_
  match r, h with
  | .error e, h => exact (hCX H e s' h).elim
  | .ok .next, h => exact h.elim
  | .ok .brk, h => exact h.elim
  | .ok .cont, h => exact h.elim
  | .ok (.ret u), h =>
    obtain ⟨v, H', os, bare, un, hok', ru, qv⟩ := h
    have ev : v = .bl true := qv
    rw [ev] at ru
    obtain rfl : u = Value.bool true := ru
    refine ⟨rfl, OldK.of_keep fun b o e => ?_, os, bare⟩
    rcases hO b with f | ⟨ob, xs, f⟩
    · exact un.keep b o e f (by intro y; exact absurd (show b ∈ ([] : List Addr) from y) (none_ b)) (by simp)
    · have e1 := (hok b _ f).1
      have e2 := (hok' b _ (un.frzs b ob _ f)).1
      rw [e] at e1
      cases e1
      exact e2
end
theorem walk_ofG {l : PySem.W.OpenLaw} {n k : Nat} {q : Program} {loose : List Str} {XP : (Str → Option Value) → Heap → Prop} {YP : World → Heap → Prop} {d : DefRec} {x : Str}
    (hn : l.most = some n) (hn2 : n ≤ sizeLine) (hdf : d.params.defaults = []) (hr : Room k callerA)
    (F : ∀ (w : World) (mg : Str → Option Value) (fa : Addr) (h : Heap), YP w h → h.Ns mainGlobals mg → mg d.name = some (.ref fa) →
      ∃ (K : PySem.W.Frag) (fd : FuncData) (sp : Sp), K.In h ∧ (∀ (s : Shared) (u : Value), BindsTo s fd ⟨[u], []⟩ [(x, u)]) ∧
        (∀ (H : Hp) (a : Addr) (ns : List Int), ns.length ≤ n → SqL K H a (ns.map V.int) → sp [.ref a] H (fun v _ => v = .bl true) fun _ _ _ => False) ∧
        ∀ base : Heap, K.In base → base.Ns mainGlobals mg → FnG l.prog w K mg base CX0 k fa fd [x] sp) :
    PySem.W.WalkO q loose XP YP l.row.toRowW d [] (fun f vs => PySem.call f vs) := by
  refine Att.attach_call hn hdf fun w s₀ z mg mb fa o pm cd doc a vs ns G Y ho hd hcd hmg hobj hints hlen hg => ?_
  obtain ⟨K, fd, sp, KX, hb, hsp, hF⟩ := F w mg fa _ Y G.T.g hmg
  have rv := vals_ints hints
  have lv := hints.length
  have hl : ns.length ≤ sizeLine := Nat.le_trans hlen hn2
  have go : ∀ H : Hp, Only H → SqL K H a (ns.map V.int) → HOk l.prog w H z.heap → (∀ b, H b ≠ none → b = a) → (H a ≠ none → K.lookup a = none) → _ := fun H hO hS hok only hK =>
    endG_from KX G.T.g G.T.b G.T.builtins G.T.nolimit hg hobj hr hF hb (fun _ _ _ y => y) hO (hsp H a ns hlen hS) hok only hK
  cases hk : K.lookup a with
  | some o =>
    have e := KX a o hk
    rw [hobj] at e
    cases e
    have hS : SqL K (fun _ => none) a (ns.map V.int) := .inr ⟨_, vs.toArray, _, hk, rfl, rfl, rfl, (by rw [List.size_toArray, lv]; exact hl), by simpa using rv⟩
    exact go (fun _ => none) (fun _ => .inl rfl) hS (fun b u y => by cases (show (none : Option HO) = some u from y)) (fun b y => absurd rfl y) (fun y => absurd rfl y)
  | none =>
    let o0 : Obj := { cls := .type "list", data := .seq vs.toArray }
    let H0 : Hp := fun b => if b = a then some (.frz o0 (.lst (ns.map V.int))) else none
    have at_ : H0 a = some (.frz o0 (.lst (ns.map V.int))) := if_pos rfl
    have off : ∀ {b : Addr}, b ≠ a → H0 b = none := fun h => if_neg h
    refine go H0 (fun b => ?_) (.inl (.inr ⟨o0, at_⟩)) (fun b u y => ?_) (fun b y => ?_) fun _ => hk
    · by_cases e : b = a
      · rw [e]
        exact .inr ⟨_, _, at_⟩
      · exact .inl (off e)
    · by_cases e : b = a
      · rw [e, at_] at y
        cases y
        rw [e]
        exact ⟨hobj, by rw [List.length_map]; exact hl, vs, _, rv, hobj⟩
      · rw [off e] at y
        cases y
    · by_cases e : b = a
      · exact e
      · exact absurd (off e) y
end Fx
/-! text.ljust(n, sign), sign.join(a tracked list), is True, a module's tuple of tuples -/
namespace Fx
open PySem PySem.Spec PyProof.Rows L2
section
variable {X : Cx}
def rLj : V → List V → Hp → VK → Prop := fun x xs H Q => ∃ (a f : Str) (i : Int), x = .str a ∧ xs = [.int i, .str f] ∧ PadOk i = true ∧ f.length = 1 ∧ Q (.str (Txt.ljustF a i (f.cps.getD 0 0))) H
theorem mt_lj : MtR X "str.ljust" rLj := by
  intro pins s σ H x xs v us Q I rx rs h
  obtain ⟨a, f, i, rfl, rfl, hp, hf, q⟩ := h
  obtain ⟨t, rfl⟩ := rx
  obtain ⟨u1, u2, rfl, r1, r2⟩ := rs.two
  obtain ⟨t1, rfl⟩ := r1
  obtain ⟨t2, rfl⟩ := r2
  exact ljust_fill hp hf fun t' k => ⟨.str _, H, I.tok _, ⟨_, rfl⟩, q⟩
def rJn : V → List V → Hp → VK → Prop := fun x xs H Q => ∃ (a : Str) (p : Addr) (ys : List Str), x = .str a ∧ xs = [.ref p] ∧ H p = some (.lst (ys.map V.str)) ∧ (ys.map (·.length)).sum + ys.length * a.length ≤ 16777216 ∧ Q (.str (Txt.join a ys)) H
theorem mt_jn : MtR X "str.join" rJn := by
  intro pins s σ H x xs v us Q I rx rs h
  obtain ⟨a, p, ys, e1, e2, hp, hz, q⟩ := h
  exact mt_join pins s σ H x xs v us Q I rx rs ⟨a, p, ys, e1, e2, .inl (.inl (.inl hp)), hz, q⟩
def rIsBl : R2 := fun x y H Q => ∃ a b, x = .bl a ∧ y = .bl b ∧ Q (.bl (decide (a = b))) H
theorem op_isBo : OpR X (compareOp .Is) rIsBl := op_is_bl
def rNoBl : R2 := fun x y H Q => ∃ a b, x = .bl a ∧ y = .bl b ∧ Q (.bl (!decide (a = b))) H
theorem op_noBo : OpR X (compareOp .IsNot) rNoBl := op_isnot_bl
end
/-! ### a module's tuple of tuples of numbers -/
def tupI (K : PySem.W.Frag) (v : Value) (r : List Int) : Bool := match v with
  | .ref a => (match K.lookup a with
    | some ⟨.type c, _, .seq its _, _⟩ => decide (c = "tuple") && (decide (its.size ≤ sizeLine) && He.relAll (r.map V.int) its.toList)
    | _ => false)
  | _ => false
def tupIs (K : PySem.W.Frag) : List Value → List (List Int) → Bool
  | [], [] => true
  | v :: vs, r :: rs => tupI K v r && tupIs K vs rs
  | _, _ => false
def tupsB (K : PySem.W.Frag) (x : Str) (rows : List (List Int)) : Bool := match K.lookup (He.ga K x) with
  | some ⟨.type c, _, .seq its _, _⟩ => decide (c = "tuple") && (decide (its.size ≤ sizeLine) && tupIs K its.toList rows)
  | _ => false
theorem tupI_ok {K : PySem.W.Frag} {v : Value} {r : List Int} (h : tupI K v r = true) : ∃ a, v = .ref a ∧ ∀ H, SqT K H a (r.map V.int) := by
  cases v with
  | ref a =>
    refine ⟨a, rfl, fun H => ?_⟩
    unfold tupI at h
    dsimp only at h
    cases q : K.lookup a with
    | none => rw [q] at h; cases h
    | some o =>
      obtain ⟨oc, od, dt, osl⟩ := o
      rw [q] at h
      cases oc with
      | type c =>
        cases dt with
        | seq its n =>
          obtain ⟨h1, h2⟩ := He.ba (show (decide (c = "tuple") && (decide (its.size ≤ sizeLine) && He.relAll (r.map V.int) its.toList)) = true from h)
          obtain ⟨h3, h4⟩ := He.ba h2
          exact .inr ⟨_, its, n, q, congrArg Value.type (of_decide_eq_true h1), rfl, of_decide_eq_true h3, He.relAll_ok h4⟩
        | _ => cases h
      | _ => cases dt <;> cases h
  | _ => cases h
theorem tupIs_ok {K : PySem.W.Frag} : ∀ {vs : List Value} {rs : List (List Int)}, tupIs K vs rs = true → ∃ as : List Addr, Vals (as.map V.ref) vs ∧ ∀ (i : Nat) (r : List Int), rs[i]? = some r → ∃ a, as[i]? = some a ∧ ∀ H, SqT K H a (r.map V.int)
  | [], [], _ => ⟨[], .nil, fun i r h => by simp at h⟩
  | v :: vs, r :: rs, h => by
    obtain ⟨h1, h2⟩ := He.ba (show (tupI K v r && tupIs K vs rs) = true from h)
    obtain ⟨a, rfl, ha⟩ := tupI_ok h1
    obtain ⟨as, hv, hr⟩ := tupIs_ok h2
    refine ⟨a :: as, .cons rfl hv, fun i r' hi => ?_⟩
    cases i with
    | zero =>
      have e : r = r' := by simpa using hi
      exact ⟨a, rfl, e ▸ ha⟩
    | succ i =>
      obtain ⟨b, hb, hs⟩ := hr i r' (by simpa using hi)
      exact ⟨b, by simpa using hb, hs⟩
  | [], _ :: _, h => by cases h
  | _ :: _, [], h => by cases h
theorem tupsB_ok {K : PySem.W.Frag} {x : Str} {rows : List (List Int)} (h : tupsB K x rows = true) : ∃ as : List Addr, (∀ H, SqT K H (He.ga K x) (as.map V.ref)) ∧ ∀ (i : Nat) (r : List Int), rows[i]? = some r → ∃ a, as[i]? = some a ∧ ∀ H, SqT K H a (r.map V.int) := by
  unfold tupsB at h
  cases q : K.lookup (He.ga K x) with
  | none => rw [q] at h; cases h
  | some o =>
    obtain ⟨oc, od, dt, osl⟩ := o
    rw [q] at h
    cases oc with
    | type c =>
      cases dt with
      | seq its n =>
        obtain ⟨h1, h2⟩ := He.ba (show (decide (c = "tuple") && (decide (its.size ≤ sizeLine) && tupIs K its.toList rows)) = true from h)
        obtain ⟨h3, h4⟩ := He.ba h2
        obtain ⟨as, hv, hr⟩ := tupIs_ok h4
        exact ⟨as, fun H => .inr ⟨_, its, n, q, congrArg Value.type (of_decide_eq_true h1), rfl, of_decide_eq_true h3, hv⟩, hr⟩
      | _ => cases h
    | _ => cases dt <;> cases h
/-! ### loops over a text's signs -/
theorem for_S {z : Str} {g : TG} {tb : TS} {D : Ends} {σ : L2.St} {H : Hp} (Pv : Nat → L2.St → Hp → Prop) (h0 : Pv 0 σ H)
    (hs : ∀ i c σ H, z.cps.toList[i]? = some c → Pv i σ H → g (.str ⟨#[c]⟩) σ H fun σ2 H2 => tb { D with nx := Pv (i + 1), ct := Pv (i + 1), bk := D.nx } σ2 H2) (hd : ∀ σ H, Pv z.cps.toList.length σ H → D.nx σ H) :
    ∃ W : Nat → Nat → L2.St → Hp → Prop, (∃ m, W 0 m σ H) ∧ ∀ i m σ H, W i m σ H →
      ((Its z).stop i H ∧ D.nx σ H) ∨ ((Its z).go i H ∧ ∃ N : L2.St → Hp → Prop, (∀ σ' H', N σ' H' → ∃ m', m' < m ∧ W (i + 1) m' σ' H') ∧ ∀ x H', (Its z).yld i H x H' → g x σ H' fun σ2 H2 => tb { D with nx := N, ct := N, bk := D.nx } σ2 H2) := by
  refine ⟨fun i m σ H => m = z.cps.size - i ∧ i ≤ z.cps.size ∧ Pv i σ H, ⟨_, rfl, Nat.zero_le _, h0⟩, ?_⟩
  rintro i m σ H ⟨rfl, hi, p⟩
  by_cases hlt : i < z.cps.size
  · refine .inr ⟨hlt, fun σ' H' => Pv (i + 1) σ' H', fun σ' H' q => ⟨z.cps.size - (i + 1), by omega, rfl, hlt, q⟩, fun x H' hy => ?_⟩
    obtain ⟨rfl, c, hc, rfl⟩ := hy
    exact hs i c σ H' (by rw [Array.getElem?_toList]; exact hc) p
  · have ei : i = z.cps.size := by omega
    subst ei
    exact .inl ⟨Nat.le_refl _, hd σ H (by rw [Array.length_toList]; exact p)⟩
theorem lc_S {z : Str} {g : TG} {tt : TT} {te : TE} {vs : List Nat} {σ : L2.St} {H1 : Hp} {D : Addr} {Qd : Hp → Prop} (Pv : Nat → Hp → Prop) (h0 : Pv 0 (upd H1 D (.lst [])))
    (hs : ∀ i c H, z.cps.toList[i]? = some c → Pv i H → g (.str ⟨#[c]⟩) (wipe σ vs) H fun σ2 H2 => wipe σ2 vs = wipe σ vs ∧ tt σ2 H2 fun b H3 =>
      if b = true then te σ2 H3 fun y H4 => ∃ acc, H4 D = some (.lst acc) ∧ acc.length < sizeLine ∧ Pv (i + 1) (upd H4 D (.lst (acc ++ [y]))) else Pv (i + 1) H3) (hd : ∀ H, Pv z.cps.toList.length H → Qd H) :
    ∃ W : Nat → Nat → Hp → Prop, (∃ m, W 0 m (upd H1 D (.lst []))) ∧ ∀ i m H, W i m H →
      ((Its z).stop i H ∧ Qd H) ∨ ((Its z).go i H ∧ ∃ Nx : Hp → Prop, (∀ H', Nx H' → ∃ m', m' < m ∧ W (i + 1) m' H') ∧ ∀ x H', (Its z).yld i H x H' → g x (wipe σ vs) H' fun σ2 H2 => wipe σ2 vs = wipe σ vs ∧ tt σ2 H2 fun b H3 =>
        if b = true then te σ2 H3 fun y H4 => ∃ acc, H4 D = some (.lst acc) ∧ acc.length < sizeLine ∧ Nx (upd H4 D (.lst (acc ++ [y]))) else Nx H3) := by
  refine ⟨fun i m H => m = z.cps.size - i ∧ i ≤ z.cps.size ∧ Pv i H, ⟨_, rfl, Nat.zero_le _, h0⟩, ?_⟩
  rintro i m H ⟨rfl, hi, p⟩
  by_cases hlt : i < z.cps.size
  · refine .inr ⟨hlt, fun H' => Pv (i + 1) H', fun H' q => ⟨z.cps.size - (i + 1), by omega, rfl, hlt, q⟩, fun x H' hy => ?_⟩
    obtain ⟨rfl, c, hc, rfl⟩ := hy
    exact hs i c H' (by rw [Array.getElem?_toList]; exact hc) p
  · have ei : i = z.cps.size := by omega
    subst ei
    exact .inl ⟨Nat.le_refl _, hd H (by rw [Array.length_toList]; exact p)⟩
theorem mem_sign {c : Nat} {z : Str} {p : Prop} (h : (c ∈ z.cps.toList) = p) : (c ∈ z.cps.toList) = p := h
/-- ''.join -/
theorem join0_list : ∀ ys : List Str, (Txt.join "" ys).cps.toList = (ys.map fun y => y.cps.toList).flatten
  | [] => rfl
  | y :: ys => by
    have key : ∀ (l : List Str) (acc : Array Nat), (l.foldl (fun acc p => acc ++ (("" : Str)).cps ++ p.cps) acc).toList = acc.toList ++ (l.map fun y => y.cps.toList).flatten := by
      intro l
      induction l with
      | nil => intro acc; simp
      | cons a l ih =>
        intro acc
        rw [List.foldl_cons, ih]
        have e : (("" : Str)).cps = #[] := rfl
        rw [e]
        simp
    exact key ys y.cps
mutual
theorem dp_mono {K : PySem.W.Frag} {H H' : Hp} (hl : ∀ a xs, SqL K H a xs → SqL K H' a xs) (ht : ∀ a xs, SqT K H a xs → SqT K H' a xs) : ∀ (d : PyData) (v : V), Dp K H v d → Dp K H' v d
  | .none, _, h => by cases h; exact .non
  | .bool b, _, h => by cases h; exact .bl b
  | .int i, _, h => by cases h; exact .int i
  | .str x, _, h => by cases h; exact .str x
  | .list ds, _, h => by
    cases h with
    | lst hs ha => exact .lst (hl _ _ hs) (dp_monoAll hl ht ds _ ha)
  | .tuple ds, _, h => by
    cases h with
    | tup hs ha => exact .tup (ht _ _ hs) (dp_monoAll hl ht ds _ ha)
  | .dict _, _, h => by cases h
theorem dp_monoAll {K : PySem.W.Frag} {H H' : Hp} (hl : ∀ a xs, SqL K H a xs → SqL K H' a xs) (ht : ∀ a xs, SqT K H a xs → SqT K H' a xs) : ∀ (ds : List PyData) (vs : List V), DpAll K H vs ds → DpAll K H' vs ds
  | [], _, h => by cases h; exact .nil
  | d :: ds, _, h => by
    cases h with
    | cons h1 h2 => exact .cons (dp_mono hl ht d _ h1) (dp_monoAll hl ht ds _ h2)
end
theorem rd_keep {H H' : Hp} {b a : Addr} {o : HO} (hk : ∀ a o, a ≠ b → H a = some o → H' a = some o) (hb : ∃ kvs, H b = some (.dK kvs)) (no : ∀ kvs, o ≠ .dK kvs) (h : Rd H a o) : Rd H' a o := by
  obtain ⟨kvs, hb⟩ := hb
  rcases h with h | ⟨ob, h⟩
  · refine .inl (hk a o (fun e => ?_) h)
    rw [e, hb] at h
    exact no kvs (Option.some.inj h).symm
  · refine .inr ⟨ob, hk a _ (fun e => ?_) h⟩
    rw [e, hb] at h
    cases h
theorem dp_same {K : PySem.W.Frag} {H H' : Hp} {d : PyData} {v : V} (s : Same H H') (h : Dp K H v d) : Dp K H' v d := by
  refine dp_mono (fun _ _ q => s.seq q) (fun a xs q => ?_) d v h
  rcases q with (q | ⟨ob, q⟩) | q
  · exact .inl (.inl (s _ _ q))
  · exact .inl (.inr ⟨ob, s _ _ q⟩)
  · exact .inr q
theorem dp_kp {K : PySem.W.Frag} {b : Addr} {H H' : Hp} {d : PyData} {v : V} (B : Bag H b) (k : Kp b H H') (h : Dp K H v d) : Dp K H' v d := by
  refine dp_mono (fun a xs q => ?_) (fun a xs q => ?_) d v h
  · rcases q with q | q
    · exact .inl (rd_keep k.keep B.some (fun _ e => by cases e) q)
    · exact .inr q
  · rcases q with q | q
    · exact .inl (rd_keep k.keep B.some (fun _ e => by cases e) q)
    · exact .inr q
/-- data that repr shows -/
structure Shw (K : PySem.W.Frag) (H : Hp) (v : V) (d : PyData) : Prop where
  dp : Dp K H v d
  sh : d.showable = true
  nd : d.hasDict = false
  dep : d.depth ≤ 50
  len : d.shown.length ≤ sizeLine
  ok : isF (.str d.shown) = true
theorem Shw.same {K : PySem.W.Frag} {H H' : Hp} {d : PyData} {v : V} (s : Same H H') (h : Shw K H v d) : Shw K H' v d := ⟨dp_same s h.dp, h.sh, h.nd, h.dep, h.len, h.ok⟩
theorem Shw.kp {K : PySem.W.Frag} {b : Addr} {H H' : Hp} {d : PyData} {v : V} (B : Bag H b) (k : Kp b H H') (h : Shw K H v d) : Shw K H' v d := ⟨dp_kp B k h.dp, h.sh, h.nd, h.dep, h.len, h.ok⟩
end Fx
/-! x == y by an own __eq__; own methods and makers in a try's body; a def that is given the caught error -/
namespace Fx
open PySem PySem.Spec PyProof.Rows L2
section
variable {X : Cx} {CX : CXT} {k : Nat} {C : Addr} {ps : List Str} {sp : Sp} {E : XK}
/-- x == y, both of the class at C -/
def rOwnEq (C : Addr) (sp : Sp) (E : XK) : R2 := fun x y H Q => ∃ a b dx dy fs gs, x = .ref a ∧ y = .ref b ∧ H a = some (.ins C dx fs) ∧ H b = some (.ins C dy gs) ∧ sp [.ref a, .ref b] H (fun v H' => ∃ r, v = .bl r ∧ Q (.bl r) H') E
theorem op_eqOwn (M : CalM X.prog X.w X.K X.mg X.base CX k C "__eq__" ps sp) (hr : Room k X.A) (hx : Passes CX X E) : OpR X (compareOp .Eq) (rOwnEq C sp E) := by
  intro pins s σ H x y v u Q I rx ry hq
  obtain ⟨f, fd, m, b, F⟩ := M.ex
  obtain ⟨a, c, dx, dy, fs, gs, rfl, rfl, ha, hc, hsp⟩ := hq
  cases rx
  cases ry
  obtain ⟨mA, J, _⟩ := ins_get I.hok ha
  obtain ⟨mB, J', _⟩ := ins_get I.hok hc
  obtain ⟨od, J, _⟩ := J.look
  obtain ⟨od', J', _⟩ := J'.look
  obtain ⟨mm, hF⟩ := I.fr
  show wpAny (model X.prog X.w) X.A (richCompare .Eq (.ref a) (.ref c)) (EP X pins σ Q) X.xe s
  refine PySem.W.cmp_K (op := .Eq) (tb := .ref C) hr.units0 hF I.ok.mod.kin J J'.type (by simp [PySem.W.notFirst]) m.at_ m.fn ?_
  refine wpAny_mono (run_fn (us := [.ref a, .ref c]) (vs := [.ref a, .ref c]) (ds := []) (dvs := []) (Q := fun v H' => ∃ r, v = .bl r ∧ Q (.bl r) H') F hr b .nil hx I (.cons rfl (.cons rfl .nil)) hsp) (fun v s' hv => ?_) fun _ _ z => z
  obtain ⟨z, H', I', rz, r, rfl, q⟩ := hv
  cases rz
  exact ⟨.bl r, H', I', rfl, q⟩
end
/-! ### in a try's body -/
section
variable {X : Cx} {k : Nat} {f C : Addr} {fd : FuncData} {ps : List Str} {sp : Sp} {W : WX} {x m : Str} {p pos apos : Pos} {e o : Expr} {es : List Expr} {ta : TE} {t : TA}
def tMethT (C : Addr) (m : Str) (sp : Sp) (E : L2.St → XK) (ta : TE) (t : TA) : TE := fun σ H Q => ta σ H fun x H1 => ∃ a dx fs, x = .ref a ∧ H1 a = some (.ins C dx fs) ∧ fs.lookup m = none ∧ t σ H1 fun vs H2 => sp (x :: vs) H2 Q (E σ)
theorem pe_methT {pl : Sem Bool} (he : PE X o ta) (c : Cls X.K C) (hm : Meth X.K C m f) (F : FnOk X.prog X.w X.K X.mg X.base (L2.CX X.prog X.w) k f fd ps sp) (hr : Room k X.A) (hb : Binds X.K fd ps []) (tk : Takes X W) (ha : PA X (e :: es) t)
    (hst : starEach (e :: es) X.env = (false, eval e X.env) :: starEach es X.env := by rfl) (hpl : (backTo pos (starEach es X.env)).any (·.1) = false := by rfl)
    (ht : eval (.Call (.Attribute o m apos) (e :: es) [] pos) X.env = (do
      let ov ← eval o X.env
      standAt apos.atName
      let (f, first) ← holding [ov] (getMethod ov m pl)
      callWith pos f first (backTo pos (starEach (e :: es) X.env)) (backToKw pos (keywordEach [] X.env))) := by rfl) :
    PE X (.Call (.Attribute o m apos) (e :: es) [] pos) (tMethT C m sp (WE W) ta t) := by
  refine ⟨fun pins s σ H Q I h => ?_⟩
  refine PySem.W.methodCall_KW (pl := pl) (thn (he.run pins s σ H _ I h) fun u s1 ⟨x, H1, I1, rx, a, dx, fs, ex, ea, l, q⟩ => ?_) ht
  subst ex
  obtain rfl : u = Value.ref a := rx
  refine getmeth_ok I1 ea c hm l ?_
  refine PySem.W.callWith_K (first := [.ref a]) (h₀ := X.base) I.ok.mod.kin hm.kp (thn (ha.run pos pins s1 σ H1 _ I1 q) fun us s2 ⟨vs, H2, I2, r, q2⟩ => ⟨I2.kIn, ?_⟩) hst hpl
  exact run_fnS (us := .ref a :: us) (vs := .ref a :: vs) (E := WE W) F hr hb (passAt tk σ) I2 (.cons rfl r) q2
/-- C(..) -/
def tMakeT (C : Addr) (sp : Sp) (E : L2.St → XK) (t : TA) : TE := fun σ H Q => t σ H fun vs H1 => ∀ x dx, H1 x = none → H1 dx = none → dx ≠ x →
  sp (.ref x :: vs) (upd (upd H1 dx (.own x)) x (.ins C dx [])) (fun v H2 => v = .non ∧ Q (.ref x) H2) (E σ)
theorem pe_mkT (M : CalI X.prog X.w X.K X.mg X.base (L2.CX X.prog X.w) k C ps sp) (hr : Room (k + 1) X.A) (hm : X.mg x = some (.ref C)) (tk : Takes X W) (ha : PA X (e :: es) t) (hg : Gl X x := by rfl) (hdb : (x == ("__debug__" : Str)) = false := by decide)
    (hs : (e :: es).all nostar = true := by rfl) : PE X (.Call (.Name x p) (e :: es) [] pos) (tMakeT C sp (WE W) t) := by
  obtain ⟨f, fd, m, b, F⟩ := M.ex
  simp only [List.all_cons, Bool.and_eq_true] at hs
  refine ⟨fun pins s σ H Q I h => ?_⟩
  refine wpAny_Call_Name_kw (ld_glob I hg hm ?_ hdb)
  refine PySem.W.callWith_K (h₀ := X.base) I.ok.mod.kin m.kp (thn (ha.run pos pins s σ H _ I h) fun us s1 ⟨vs, H1, I1, r, q⟩ => ⟨I1.kIn, ?_⟩) (star_ok hs.1) (back_ok hs.2)
  have hq := q (s1.heap.objs.size + 1) s1.heap.objs.size (I1.hok.fresh (Nat.le_succ _)) (I1.hok.fresh (Nat.le_refl _)) (Nat.ne_of_lt (Nat.lt_succ_self _))
  have I2 := Inv.made (C := C) I1
  have r2 : Vals (V.ref (s1.heap.objs.size + 1) :: vs) (Value.ref (s1.heap.objs.size + 1) :: us) := .cons rfl r
  have hl : (Value.ref (s1.heap.objs.size + 1) :: us).length = ps.length := by
    have e := r2.length
    rw [F.len _ _ _ _ hq] at e
    exact e.symm
  have b2 := b _ (Value.ref (s1.heap.objs.size + 1) :: us) I2.kIn (by rw [List.append_nil]; exact hl)
  rw [List.append_nil] at b2
  refine wpAny_call (make_map (f := f) I1.kIn m.makes m.init (beq_iff_eq.mp m.fn) (codeAny_mono (F.run _ X.stack _ _ ⟨Value.ref (s1.heap.objs.size + 1) :: us, []⟩ (Value.ref (s1.heap.objs.size + 1) :: us) _ _ (WE W σ) (hr.make C us [])
    (I2.env0.make C us []) b2 r2 hq) fun r s' hq' => ?_))
  cases r with
  | error e => exact passAt tk σ pins _ _ e s' I2 hq'
  | ok fl =>
    cases fl with
    | ret u =>
      obtain ⟨v, H', I3, rv, ev, q3⟩ := I2.after hq'
      subst ev
      exact ⟨rv, ⟨V.ref (s1.heap.objs.size + 1), H', I3, rfl, q3⟩⟩
    | next => exact False.elim hq'
    | brk => exact False.elim hq'
    | cont => exact False.elim hq'
end
/-! ### a def that is given the error which the caller's suite holds -/
abbrev SpE := Addr → Value → Option Addr → Hp → VK → Prop
structure FnE (P : Program) (w : World) (K : PySem.W.Frag) (mg : Str → Option Value) (base : Heap) (k : Nat) (f : Addr) (fd : FuncData) (x : Str) (sp : SpE) : Prop where
  run : ∀ (A : Around) (outer : List Env) (s : Shared) (H : Hp) (args : Args) (Q : VK) (a : Addr) (oe : Obj) (cls : Value) (d : Option Addr), L2H.RoomH k A → L2H.PinOk outer H s (a, oe) → Zc cls d oe → (∃ vs, oe.data = .fields vs) → Env0 P w K mg base A outer s H →
    BindsTo s fd args [(x, .ref a)] → sp a cls d H Q → codeAny (model P w) A (.call (.ref f) args) (CR CX0 outer P w H s Q E0) s
/-- the context of its body -/
abbrev cxE (P : Program) (w : World) (K : PySem.W.Frag) (mg : Str → Option Value) (base : Heap) (N : List Str) (qual : Str) (scope : Scope) (f : Addr) (cd : Value) (A : Around) (outer : List Env) (s : Shared) (H : Hp) (p : Addr × Obj) : Cx :=
  (L2H.cxH CX0 P w K mg base N qual scope f cd A outer s H E0 p).nox
theorem fn_ofE {P : Program} {w : World} {K : PySem.W.Frag} {mg : Str → Option Value} {base : Heap} {k : Nat} {f : Addr} {name qual : Str} {params : Arguments} {body : List Stmt} {scope : Scope} {dV kV doc pm cdv ct oc : Value} {an od : Option Addr}
    {osl : Array (Option Value)} {N : List Str} {x : Str} {sp : SpE} (lk : K.lookup f = some ⟨oc, od, .func (PySem.W.fnOf name qual params body scope dV kV doc pm an cdv ct), osl⟩) (hcd : PySem.W.codeIn K cdv qual = true) (S : FnScope N [x] scope)
    (hbody : ∀ (A : Around) (outer : List Env) (s : Shared) (H : Hp) (Q : VK) (a : Addr) (oe : Obj) (cls : Value) (d : Option Addr), L2H.RoomH k (A.deeper (envOfC qual scope s.heap.objs.size f cdv)) → Zc cls d oe → (∃ vs, oe.data = .fields vs) → sp a cls d H Q →
      ∃ t, PSs (cxE P w K mg base N qual scope f cdv A outer s H (a, oe)) body t ∧ t { nx := fun _ H' => Q .non H', rt := Q } (L2.start N [.ref a]) H) :
    FnE P w K mg base (k + 1) f (PySem.W.fnOf name qual params body scope dV kV doc pm an cdv ct) x sp := by
  refine ⟨fun A outer s H args Q a oe cls d hr hpin hz hf e0 hb hsp => ?_⟩
  have KX : K.In s.heap := e0.mod.kin.keeps fun b o e => (e0.bs b o e).1
  have lim : s.heap.NoLimit := e0.mod.nolimit.keeps fun b o e => (e0.bs b o e).1
  have hkind : ∀ y ∈ [(x, Value.ref a)], scope.names.lookup y.1 = some .local ∨ (scope.names.lookup y.1 = some .cell ∧ ((cellsFrom (s.heap.objs.size + 1) scope.names []).lookup y.1).isSome = true) := fun y hy => by
    have ey : y = (x, Value.ref a) := List.mem_singleton.mp hy
    rw [ey]
    rcases S.par x List.mem_cons_self with q | q
    · exact .inl q
    · exact .inr ⟨q, PySem.W.cellsFrom_some _ _ _ (.inl q)⟩
  refine codeAny_call_function hr.depth (KX _ _ lk) rfl S.co S.gen rfl (PySem.W.codeRec_of KX hcd) (hb _ _ _ _ ?_)
  refine wpAny_newFunctionEnv_cells S.kind hkind fun env he s1 y => ?_
  subst he
  refine ⟨lim.keeps y.toInCall.keep, codeAny_func ?_⟩
  obtain ⟨t, ht, hq⟩ := hbody A outer s H Q a oe cls d (hr.deeper _) hz hf hsp
  have I : Inv (L2H.cxH CX0 P w K mg base N qual scope f cdv A outer s H E0 (a, oe)) [] (L2.start N [.ref a]) H s1 := L2H.inv_startH (us := [.ref a]) S hpin e0 rfl (.cons rfl .nil) y
  refine wpAny_mono (ht.nox.run [] s1 (L2.start N [.ref a]) H _ I hq) (fun fl s' hs => ?_) fun e s' hs => hs
  have fin : ∀ {σ' : L2.St} {H' : Hp} {v : V} {u : Value}, Inv (L2H.cxH CX0 P w K mg base N qual scope f cdv A outer s H E0 (a, oe)) [] σ' H' s' → RelV v u → Q v H' → CE outer P w H s Q u s' :=
    fun {σ' H' v u} J rv q => ⟨v, H', J.os, J.bare, J.base, J.hok, rv, q⟩
  cases fl with
  | ret u =>
    obtain ⟨v, σ', H', J, rv, q⟩ := hs
    exact fin J rv q
  | next =>
    obtain ⟨σ', H', J, q⟩ := hs
    exact fin (v := V.non) (u := Value.none) J rfl q
  | brk =>
    obtain ⟨_, _, _, q⟩ := hs
    exact False.elim q
  | cont =>
    obtain ⟨_, _, _, q⟩ := hs
    exact False.elim q
structure CalE (P : Program) (w : World) (K : PySem.W.Frag) (mg : Str → Option Value) (base : Heap) (k : Nat) (x : Str) (ps : List Str) (sp : SpE) : Prop where
  ex : ∃ f fd y, ps = [y] ∧ mg x = some (.ref f) ∧ PySem.W.keepIn K (.ref f) = true ∧ Binds K fd [y] [] ∧ FnE P w K mg base k f fd y sp
theorem Src.calE {P : Program} {w : World} {K : PySem.W.Frag} {mg : Str → Option Value} {base : Heap} {x y : Str} {st : Stmt} {N : List Str} {k : Nat} {sp : SpE} (S : Src K mg x st) (sc : FnScope N [y] (defScope st)) (bn : BindP x st [y])
    (hbody : ∀ (f : Addr) (cdv : Value) (A : Around) (outer : List Env) (s : Shared) (H : Hp) (Q : VK) (a : Addr) (oe : Obj) (cls : Value) (d : Option Addr), L2H.RoomH k (A.deeper (envOfC x (defScope st) s.heap.objs.size f cdv)) → Zc cls d oe → (∃ vs, oe.data = .fields vs) → sp a cls d H Q →
      ∃ t, PSs (cxE P w K mg base N x (defScope st) f cdv A outer s H (a, oe)) (defBody st) t ∧ t { nx := fun _ H' => Q .non H', rt := Q } (L2.start N [.ref a]) H) : CalE P w K mg base (k + 1) x [y] sp := by
  obtain ⟨f, fd, g, F⟩ := S
  have b := F.bindsN bn
  have kp := F.kp
  obtain ⟨oc, od, dV, kV, doc, pm, an, cdv, ct, osl, rfl, lk, hcd, _, _⟩ := F.ex
  exact ⟨f, _, y, rfl, g, kp, b, fn_ofE lk hcd sc fun A outer s H Q a oe cls d hr hz hf hsp => hbody f cdv A outer s H Q a oe cls d hr hz hf hsp⟩
section
variable {X : Cx} {k : Nat} {x : Str} {ps : List Str} {sp : SpE} {p pos : Pos} {e : Expr} {te : TA} {a : Addr} {oe : Obj} {cls : Value} {d : Option Addr} {pn : List (Addr × Obj)}
def tCallE (a : Addr) (cls : Value) (d : Option Addr) (sp : SpE) (te : TA) : TE := fun σ H Q => te σ H fun vs H1 => vs = [.ref a] ∧ sp a cls d H1 Q
/-- f(err) in the suite -/
theorem pe_calE (C : CalE X.prog X.w X.K X.mg X.base k x ps sp) (hr : Room k X.A) (hz : Zc cls d oe) (hf : ∃ vs, oe.data = .fields vs) (ha : PA (X.suite a ((a, oe) :: pn)) [e] te) (hg : Gl (X.suite a ((a, oe) :: pn)) x := by rfl) (hdb : (x == ("__debug__" : Str)) = false := by decide)
    (hs : nostar e = true := by rfl) : PE (X.suite a ((a, oe) :: pn)) (.Call (.Name x p) [e] [] pos) (tCallE a cls d sp te) := by
  obtain ⟨f, fd, y, _, g, kp, b, F⟩ := C.ex
  refine ⟨fun pins s σ H Q I h => ?_⟩
  refine wpAny_Call_Name_kw (ld_glob I hg g ?_ hdb)
  refine PySem.W.callWith_K (h₀ := X.base) I.ok.mod.kin kp (thn (ha.run pos pins s σ H _ I h) fun us s1 ⟨vs, H1, I1, r, ev, q⟩ => ⟨I1.kIn, ?_⟩) (star_ok hs) rfl
  subst ev
  cases r with
  | cons rx rr =>
    cases rr
    cases rx
    have P1 := I1.pin (a, oe) (List.mem_append_left _ List.mem_cons_self)
    have hpin : L2H.PinOk X.stack H1 s1 (a, oe) := ⟨P1.1, P1.2.1, fun hm => (List.mem_cons.mp (I1.stkSub a hm)).elim P1.2.2.1 P1.2.2.2.1, P1.2.2.2.2⟩
    have bb := b s1 [.ref a] I1.kIn rfl
    refine wpAny_call (codeAny_mono (F.run (X.suite a ((a, oe) :: pn)).A X.stack s1 H1 ⟨[.ref a], []⟩ Q a oe cls d ⟨hr.dp, hr.un⟩ hpin hz hf I1.env0 bb q) fun r s' hq => ?_)
    cases r with
    | error e => exact False.elim hq
    | ok fl =>
      cases fl with
      | ret u => exact I1.after hq
      | next => exact False.elim hq
      | brk => exact False.elim hq
      | cont => exact False.elim hq
end
/-- isinstance(err, (C1, C2, ..)) -/
def rIsYT (K : PySem.W.Frag) (a : Addr) (cls : Value) (d : Option Addr) : List V → Hp → VK → Prop := fun xs H Q => ∃ tp, xs = [.ref a, .ref tp] ∧ ∃ D, cls = .ref D ∧ ∃ dd, d = some dd ∧ (∃ fs, H dd = some (.xd fs)) ∧ ExcC K D ∧
  ∃ cs, H tp = some (.tup cs) ∧ ∃ us, cs.map clsVal = us.map some ∧ ∃ b, PySem.W.kitAny K (.ref D) us = some b ∧ Q (.bl b) H
theorem cls_vals : ∀ {cs : List V} {us ws : List Value}, cs.map clsVal = us.map some → Vals cs ws → ws = us
  | [], [], _, _, .nil => rfl
  | [], _ :: _, _, h, _ => by cases h
  | _ :: _, [], _, h, _ => by cases h
  | c :: cs, u :: us, _, h, .cons r rr => by
    simp only [List.map_cons, List.cons.injEq] at h
    have e2 := cls_vals h.2 rr
    subst e2
    congr 1
    have h1 := h.1
    cases c with
    | ref C2 => cases h1; exact r
    | ty n => cases h1; exact r
    | _ => cases h1
theorem call_isYT {X : Cx} {a : Addr} {oe : Obj} {cls : Value} {d : Option Addr} (hp : (a, oe) ∈ X.pn) (hz : Zc cls d oe) (hf : ∃ vs, oe.data = .fields vs) : CallR X (.builtin "isinstance") (rIsYT X.K a cls d) := by
  intro pins s σ H xs us Q I r h
  obtain ⟨tp, rfl, D, rfl, dd, rfl, ⟨fs, hdd⟩, C, cs, hT, ws, hcs, b, e, q⟩ := h
  cases r with
  | cons rx rr =>
    cases rr with
    | cons rt rr =>
      cases rr
      cases rx
      cases rt
      obtain ⟨hget, _⟩ := I.pin (a, oe) (List.mem_append_left _ hp)
      obtain ⟨vs, hv⟩ := hf
      have hx : ObjOk X.prog X.w H s.heap dd (.xd fs) := I.hok dd _ hdd
      obtain ⟨mA, ⟨od, es, ep, ho, hrest⟩, hr⟩ := hx
      have J : PySem.W.InstAt s.heap a oe D (some od) := ⟨hget, hz.1, by unfold PySem.W.notCls; rw [hv] <;> rfl, by rw [hz.2]; exact ho⟩
      obtain ⟨_, its, rv, o, h1, h2, n, h3⟩ := (show ObjOk X.prog X.w H s.heap tp (.tup cs) from I.hok tp _ hT)
      have e3 := cls_vals hcs rv
      subst e3
      obtain ⟨oc, od2, dt, sl⟩ := o
      simp only at h2 h3
      subst h2 h3
      exact PySem.W.kia_tup (PySem.W.fx_kitx C.hg C.hk C.hs C.hd C.ha C.hn C.ht C.hm) I.kIn ⟨_, J⟩ h1 e (fun z => nomatch z) fun tk => ⟨.bl b, H, I.kept (t' := tk) fun _ _ z => z, rfl, q⟩
end Fx
namespace Fx
open PySem PySem.Spec PyProof.Rows L2
/-- // of any sign -/
def CDivZ (_ j : Int) : Prop := j ≠ 0 ∧ j.natAbs.log2 < 9000
section
variable {X : Cx}
theorem op_fdivZ : OpR X (binaryOp .FloorDiv) (rI CDivZ fun i j => .int (i.fdiv j)) := opI fun i j _ _ _ _ _ hc q => floordiv_int hc.1 q (.inl (PyProof.noPylong_of_log2 hc.2))
def rIntB : List V → Hp → VK → Prop := fun xs H Q => ∃ k, xs = [.bl k] ∧ Q (.int (if k = true then 1 else 0)) H
theorem int_B : CallR X (.type "int") rIntB := CallR.imp call_int1 fun xs H Q h => .inr h
/-- a callee that may raise, and does not -/
theorem passX : Passes (L2.CX X.prog X.w) X E0 := fun _ _ _ _ _ _ _ h => by
  obtain ⟨_, _, _, _, _, _, _, _, _, _, _, _, hE⟩ := h
  exact hE.elim
end
theorem cdivZ_of {i j : Int} (h0 : j ≠ 0) (h : j.natAbs < 2 ^ 64) : CDivZ i j := ⟨h0, Nat.lt_trans (PySem.Flt.log2_lt_of (by decide) h) (by decide)⟩
theorem Bag.ins {H : Hp} {b : Addr} (B : Bag H b) {a C dx : Addr} {fs : List (Str × V)} (h : H a = Option.some (.ins C dx fs)) : a ≠ b := by
  obtain ⟨c, ns, x, r, m, n, h1, _⟩ := B
  exact ne_of h h1 (by intro z; cases z)
theorem Kp.ins {H H1 : Hp} {b : Addr} (x : Kp b H H1) (B : Bag H b) {a C dx : Addr} {fs : List (Str × V)} (h : H a = Option.some (.ins C dx fs)) : H1 a = Option.some (.ins C dx fs) := x.keep _ _ (B.ins h) h
end Fx
namespace Fx
open PySem PySem.Spec PyProof.Rows L2
/-- isinstance(o, C), o an instance of an own class -/
def rIsI (K : PySem.W.Frag) : List V → Hp → VK → Prop := fun xs H Q => ∃ a c, xs = [.ref a, c] ∧ ∃ D dx fs, H a = some (.ins D dx fs) ∧ C8.InsC K D ∧ ∃ cv, clsVal c = some cv ∧ ∃ b, PySem.W.kitOne K (.ref D) cv = some b ∧ Q (.bl b) H
theorem is_I {X : Cx} : CallR X (.builtin "isinstance") (rIsI X.K) := by
  intro pins s σ H xs us Q I r h
  obtain ⟨a, c, rfl, D, dx, fs, ha, k, cv, hcv, b, hb, q⟩ := h
  obtain ⟨u, w', rfl, ru, rw'⟩ := vals2 r
  have e : w' = cv := by
    cases c with
    | ref C2 => cases hcv; exact rw'
    | ty n => cases hcv; exact rw'
    | _ => cases hcv
  subst e
  exact isinst_ok I ru (TyOf.ins ha k.cl k.ha k.hn k.htk k.hm) hb fun tk => ⟨.bl b, H, I.tok _, rfl, q⟩
def insB (K : PySem.W.Frag) (C : Addr) : Bool := decide (PySem.W.findIn K (.ref C) "__class__" = some (some (.builtin "object.__class__"))) && (decide (PySem.W.specialIn K (.builtin "object.__class__") "__get__" = some (some (.builtin "getset_descriptor.__get__"))) &&
  (decide (PySem.W.takesIn K (.builtin "object.__class__") = some true) && (decide (PySem.W.mroIn K C (.type "object") = some true) && decide (PySem.W.kitOne K (.ref C) (.ref C) = some true))))
theorem insC_of {K : PySem.W.Frag} {C : Addr} (cl : Cls K C) (h : insB K C = true) : C8.InsC K C := by
  obtain ⟨h1, h⟩ := He.ba h
  obtain ⟨h2, h⟩ := He.ba h
  obtain ⟨h3, h⟩ := He.ba h
  obtain ⟨h4, h5⟩ := He.ba h
  exact ⟨cl, of_decide_eq_true h1, of_decide_eq_true h2, of_decide_eq_true h3, of_decide_eq_true h4, of_decide_eq_true h5⟩
end Fx
namespace Fx
open PySem PySem.Spec PyProof.Rows L2
/-- the loop over a list or a tuple that stays, by an invariant -/
theorem forQ {K : PySem.W.Frag} {a : Addr} {xs : List V} {j : Nat} {g : TG} {tb : TS} {D : Ends} {σ : L2.St} {H : Hp} (hv : σ[j]? = some (some (.ref a))) (hq : Sq H a xs) (Pv : Nat → L2.St → Hp → Prop) (h0 : Pv 0 σ H) (hS : ∀ i σ H', Pv i σ H' → Same H H')
    (hs : ∀ i x σ H, xs[i]? = some x → Pv i σ H → g x σ H fun σ2 H2 => tb { D with nx := Pv (i + 1), ct := Pv (i + 1), bk := D.nx } σ2 H2) (hd : ∀ σ H, Pv xs.length σ H → D.nx σ H) : tFor (iQ K (tVar j)) g tb D σ H := by
  rcases hq with hq | hq
  · exact .inl ⟨_, hv, a, rfl, ⟨_, .inl (.inl hq)⟩, for_list (K := K) (a := a) (xs := xs) Pv h0 (fun i σ H' _ p => .inl (.inl (hS i σ H' p _ _ hq))) hs hd⟩
  · exact .inr ⟨_, hv, a, rfl, ⟨_, .inl (.inl hq)⟩, for_tup (K := K) (a := a) (xs := xs) Pv h0 (fun i σ H' _ p => .inl (.inl (hS i σ H' p _ _ hq))) hs hd⟩
end Fx
namespace Fx
open PySem PySem.Spec PyProof.Rows L2
/-- a statement first; what follows stays folded -/
theorem nxI {t : TS} {D : Ends} {σ : L2.St} {H : Hp} (h : ∀ K : L2.St → Hp → Prop, (∀ σ H, D.nx σ H → K σ H) → t { D with nx := K } σ H) : t D σ H := h D.nx fun _ _ x => x
end Fx
/-! Instances of own classes under the operators: len(o), o[i], x in o, o | p, o != p, list(o) -/
namespace PySem.W
open PySem PySem.Spec PySem.Calls PyProof.Rows
section
variable {prog : Program} {w : World} {A : Around} {E : Value → Shared → Prop} {s : Shared} {K : Frag} {x C L f : Addr} {h₀ : Heap} {m : Str → Option Value} {ox : Obj} {od : Option Obj} {b tb : Value}
theorem fx_ne_K {Q : Value → Shared → Prop} (hu : A.units + 1 < cLine) (F : Fr h₀ L s.heap m) (X₀ : K.In h₀) (I : InstAt s.heap x ox C od) (hb : Looks (model prog w) s.heap (typeOf b) tb) (hn : notFirst K C tb = true)
    (hs : findIn K (.ref C) "__ne__" = some (some (.builtin "object.__ne__"))) (hq : findIn K (.ref C) "__eq__" = some (some (.ref f))) (hf : isFn K (.ref f) = true) (ho : subIn K (.ref C) (.type "object") = some true)
    (h : wpAny (model prog w) A.in1 (call (.ref f) [.ref x, b]) (fun v s' => ∃ r, v = .bool r ∧ Q (.bool (!r)) s') E s) : wpAny (model prog w) A (richCompare .NotEq (.ref x) b) Q E s := by
  have X := X₀.keeps F.keep
  have fin : wpAny (model prog w) A (call (.builtin "object.__ne__") [.ref x, b]) (fun v s' => ∃ r, v = .bool r ∧ Q v s') E s := by
    refine wpAny_call (codeAny_call_builtin PySem.F.cmp_object.ne.plain PySem.F.cmpEntry_ne ?_)
    refine check_slot (i := "object.__ne__") (owner := "object") (n := "__ne__") PySem.F.cmpKind_ne PySem.F.cmpSplit_ne (I.type.andThen (looks_subIn X ho)) (PySem.F.cmpArgs_ne _ _) ?_
    unfold Builtin.«object.__ne__»
    refine wpAny_bind (wpAny_of_eq (a := ((Value.ref x : Value), [b])) (by first | rfl | (simp only [slotArgs]; rfl)) ?_)
    refine wpAny_bind (wpAny_cRoomFor (show A.in1.units < cLine from hu) ?_)
    refine wpAny_bind (ifBound_K X I hq hf (wpAny_mono h (fun v s' hv => ?_) fun _ _ e => e))
    obtain ⟨r, rfl, q⟩ := hv
    refine wpAny_bind (m := truthy (.bool r)) (wpAny_truthy_bool ?_)
    first | exact wpAny_pure ⟨_, rfl, ⟨_, rfl, q⟩⟩ | exact wpAny_pure ⟨_, rfl, q⟩ | exact wpAny_pure q
  have one : wpAny (model prog w) A (tryCompare (.ref x) "__ne__" b) (fun r s' => ∃ v, r = some v ∧ Q v s') E s := by
    unfold tryCompare
    have fin2 : wpAny (model prog w) A (call (.builtin "object.__ne__") ([.ref x] ++ [b]) >>= fun v => pure (some v)) (fun r s' => ∃ c, r = some (.bool c) ∧ Q (.bool c) s') E s := wpAny_bind (wpAny_mono fin (fun v s' hv => by
      obtain ⟨r, rfl, q⟩ := hv
      exact wpAny_pure ⟨_, rfl, q⟩) fun _ _ e => e)
    have two : wpAny (model prog w) A (callSpecialIfBound? (.ref x) "__ne__" [b]) (fun r s' => ∃ c, r = some (.bool c) ∧ Q (.bool c) s') E s := by
      simp only [callSpecialIfBound?, bindSpecialIfBound?]
      refine wpAny_holding (wpAny_bind (wpAny_bind (wpAny_bind (I.type.here ((looks_findIn X hs).here ?_)))))
      refine wpAny_bind (wpAny_askSetting (wpAny_ite ?_))
      split
      · rw [PySem.F.cmp_object.ne.bind]
        exact wpAny_bind (wpAny_pure (wpAny_pure (by exact fin2)))
      · rw [PySem.F.cmp_object.ne.bind]
        exact wpAny_tryCatch (wpAny_bind (wpAny_pure (wpAny_pure (by exact fin2))))
    refine wpAny_bind (wpAny_mono two (fun r s' hv => ?_) fun _ _ e => e)
    obtain ⟨c, rfl, q⟩ := hv
    exact wpAny_pure ⟨_, rfl, q⟩
  unfold richCompare
  simp only [oneThing_ref]
  refine wpAny_holding (wpAny_bind (wpAny_cRoomFor (Nat.lt_of_succ_lt hu) ?_))
  refine wpAny_bind (I.type.here (wpAny_bind (hb.here ?_)))
  split
  · rename_i q
    have e : subIn K tb (.ref C) = some false := by
      rcases Bool.or_eq_true_iff.mp hn with e | e
      · rw [beq_iff_eq.mp e] at q; simp at q
      · exact beq_iff_eq.mp e
    refine wpAny_bind ((looks_subIn X e).here ?_)
    simp only [Bool.false_eq_true, if_false]
    refine wpAny_bind (wpAny_mono one (fun r s' z => ?_) fun _ _ e => e)
    obtain ⟨v, rfl, hq⟩ := z
    exact wpAny_pure hq
  · refine wpAny_bind (wpAny_pure ?_)
    simp only [Bool.false_eq_true, if_false]
    refine wpAny_bind (wpAny_mono one (fun r s' z => ?_) fun _ _ e => e)
    obtain ⟨v, rfl, hq⟩ := z
    exact wpAny_pure hq
end
end PySem.W
namespace Fx
open PySem PySem.Spec PyProof.Rows L2
section
variable {X : Cx} {CX : CXT} {k : Nat} {C : Addr} {ps : List Str} {sp : Sp} {E : XK}
/-- the callee runs somewhere below -/
theorem run_fnA {A : Around} {f : Addr} {fd : FuncData} {pins : List (Addr × Obj)} {σ : L2.St} {H : Hp} {s : Shared} {Q : VK} {us : List Value} {vs : List V} (hA : A.frames = X.A.frames) (F : FnOk X.prog X.w X.K X.mg X.base CX k f fd ps sp) (hr : Room k A) (hb : Binds X.K fd ps []) (hx : Passes CX X E)
    (I : Inv X pins σ H s) (r : Vals vs us) (h : sp vs H Q E) : wpAny (model X.prog X.w) A (call (.ref f) us) (EP X pins σ Q) X.xe s := by
  have e0 : Env0 X.prog X.w X.K X.mg X.base A X.stack s H := by
    have e := I.env0
    exact ⟨by rw [hA]; exact e.frames, e.mod, e.bs, e.bsz, e.funs, e.frf, e.hok, e.bare⟩
  have hl : us.length = ps.length := by rw [← r.length]; exact F.len _ _ _ _ h
  have b := hb s us I.kIn (by rw [List.append_nil]; exact hl)
  rw [List.append_nil] at b
  refine wpAny_call (codeAny_mono (F.run A X.stack s H ⟨us, []⟩ us vs Q E hr e0 b r h) fun r s' hq => ?_)
  cases r with
  | error e => exact hx pins σ H s e s' I hq
  | ok fl =>
    cases fl with
    | ret u => exact I.after hq
    | next => exact False.elim hq
    | brk => exact False.elim hq
    | cont => exact False.elim hq
theorem inst_at {pins : List (Addr × Obj)} {σ : L2.St} {H : Hp} {s : Shared} {a dx : Addr} {fs : List (Str × V)} (I : Inv X pins σ H s) (ha : H a = some (.ins C dx fs)) : ∃ ox od, PySem.W.InstAt s.heap a ox C od := by
  obtain ⟨mA, J, _⟩ := ins_get I.hok ha
  obtain ⟨od, J, _⟩ := J.look
  exact ⟨_, _, J⟩
/-- len(o) -/
def rLenO (C : Addr) (sp : Sp) (E : XK) : List V → Hp → VK → Prop := fun xs H Q => ∃ a dx fs, xs = [.ref a] ∧ H a = some (.ins C dx fs) ∧ sp [.ref a] H (fun v H' => ∃ n, v = .int n ∧ 0 ≤ n ∧ n < 2 ^ 63 ∧ Q (.int n) H') E
theorem len_O (M : CalM X.prog X.w X.K X.mg X.base CX k C "__len__" ps sp) (hr : Room (k + 1) X.A) (hx : Passes CX X E) : CallR X (.builtin "len") (rLenO C sp E) := by
  intro pins s σ H xs us Q I rv h
  obtain ⟨a, dx, fs, rfl, ha, hsp⟩ := h
  obtain ⟨f, fd, m, b, F⟩ := M.ex
  obtain ⟨u, rfl, ru⟩ := rv.one
  cases ru
  obtain ⟨ox, od, J⟩ := inst_at I ha
  obtain ⟨mm, hF⟩ := I.fr
  refine PySem.W.len_K hF I.ok.mod.kin J m.at_ m.fn ?_
  refine wpAny_mono (run_fnA (A := X.A.in1) (vs := [.ref a]) (us := [.ref a]) rfl F hr.in1 b hx I (.cons rfl .nil) hsp) (fun v s' hv => ?_) fun _ _ z => z
  obtain ⟨z, H', I', rz, n, rfl, h0, h1, q⟩ := hv
  obtain ⟨t, rfl⟩ := rz
  exact ⟨⟨h0, h1⟩, .int n, H', I'.tok _, ⟨_, rfl⟩, q⟩
/-- x in o -/
def rInO (C : Addr) (sp : Sp) (E : XK) : R2 := fun x y H Q => ∃ a dx fs, y = .ref a ∧ H a = some (.ins C dx fs) ∧ sp [.ref a, x] H (fun v H' => ∃ r, v = .bl r ∧ Q (.bl r) H') E
def rNotInO (C : Addr) (sp : Sp) (E : XK) : R2 := fun x y H Q => ∃ a dx fs, y = .ref a ∧ H a = some (.ins C dx fs) ∧ sp [.ref a, x] H (fun v H' => ∃ r, v = .bl r ∧ Q (.bl (!r)) H') E
theorem in_O (M : CalM X.prog X.w X.K X.mg X.base CX k C "__contains__" ps sp) (hr : Room k X.A) (hx : Passes CX X E) : OpR X (compareOp .In) (rInO C sp E) := by
  intro pins s σ H x y v u Q I rx ry hq
  obtain ⟨f, fd, m, b, F⟩ := M.ex
  obtain ⟨a, dx, fs, rfl, ha, hsp⟩ := hq
  cases ry
  obtain ⟨ox, od, J⟩ := inst_at I ha
  obtain ⟨mm, hF⟩ := I.fr
  refine PySem.W.in_K hF I.ok.mod.kin J m.at_ m.fn ?_
  refine wpAny_mono (run_fnA (vs := [.ref a, x]) (us := [.ref a, v]) rfl F hr b hx I (.cons rfl (.cons rx .nil)) hsp) (fun v s' hv => ?_) fun _ _ z => z
  obtain ⟨z, H', I', rz, r, rfl, q⟩ := hv
  cases rz
  exact wpAny_truthy_bool ⟨.bl r, H', I', rfl, q⟩
theorem notIn_O (M : CalM X.prog X.w X.K X.mg X.base CX k C "__contains__" ps sp) (hr : Room k X.A) (hx : Passes CX X E) : OpR X (compareOp .NotIn) (rNotInO C sp E) := by
  intro pins s σ H x y v u Q I rx ry hq
  obtain ⟨f, fd, m, b, F⟩ := M.ex
  obtain ⟨a, dx, fs, rfl, ha, hsp⟩ := hq
  cases ry
  obtain ⟨ox, od, J⟩ := inst_at I ha
  obtain ⟨mm, hF⟩ := I.fr
  refine PySem.W.notIn_K hF I.ok.mod.kin J m.at_ m.fn ?_
  refine wpAny_mono (run_fnA (vs := [.ref a, x]) (us := [.ref a, v]) rfl F hr b hx I (.cons rfl (.cons rx .nil)) hsp) (fun v s' hv => ?_) fun _ _ z => z
  obtain ⟨z, H', I', rz, r, rfl, q⟩ := hv
  cases rz
  exact wpAny_truthy_bool ⟨.bl (!r), H', I', rfl, q⟩
/-- o op p, both of the class at C -/
def rBinO (C : Addr) (sp : Sp) (E : XK) : R2 := fun x y H Q => ∃ a b dx dy fs gs, x = .ref a ∧ y = .ref b ∧ H a = some (.ins C dx fs) ∧ H b = some (.ins C dy gs) ∧ sp [.ref a, .ref b] H (fun v H' => ∃ r, v = .ref r ∧ Q (.ref r) H') E
theorem bin_O {op : Operator} {mn : Str} (hop : PySem.dunder op.info.2 = mn) (M : CalM X.prog X.w X.K X.mg X.base CX k C mn ps sp) (hc : PySem.W.selfFirst X.K C = true) (hr : Room k X.A) (hx : Passes CX X E) : OpR X (binaryOp op) (rBinO C sp E) := by
  intro pins s σ H x y v u Q I rx ry hq
  obtain ⟨f, fd, m, b, F⟩ := M.ex
  obtain ⟨a, c, dx, dy, fs, gs, rfl, rfl, ha, hb, hsp⟩ := hq
  cases rx
  cases ry
  subst hop
  obtain ⟨ox, od, J⟩ := inst_at I ha
  obtain ⟨oy, od', J'⟩ := inst_at I hb
  obtain ⟨mm, hF⟩ := I.fr
  refine PySem.W.binop_K hF I.ok.mod.kin J J'.type hc m.at_ m.fn ?_
  refine wpAny_mono (run_fnA (vs := [.ref a, .ref c]) (us := [.ref a, .ref c]) rfl F hr b hx I (.cons rfl (.cons rfl .nil)) hsp) (fun v s' hv => ?_) fun _ _ z => z
  obtain ⟨z, H', I', rz, r, rfl, q⟩ := hv
  cases rz
  exact ⟨.ref r, H', I', rfl, q⟩
/-- o != p by the own __eq__ -/
def rNeO (C : Addr) (sp : Sp) (E : XK) : R2 := fun x y H Q => ∃ a b dx dy fs gs, x = .ref a ∧ y = .ref b ∧ H a = some (.ins C dx fs) ∧ H b = some (.ins C dy gs) ∧ sp [.ref a, .ref b] H (fun v H' => ∃ r, v = .bl r ∧ Q (.bl (!r)) H') E
def neB (K : PySem.W.Frag) (C : Addr) : Bool := decide (PySem.W.findIn K (.ref C) "__ne__" = some (some (.builtin "object.__ne__"))) && decide (PySem.W.subIn K (.ref C) (.type "object") = some true)
theorem ne_O (M : CalM X.prog X.w X.K X.mg X.base CX k C "__eq__" ps sp) (hn : neB X.K C = true) (hr : Room (k + 1) X.A) (hx : Passes CX X E) : OpR X (compareOp .NotEq) (rNeO C sp E) := by
  intro pins s σ H x y v u Q I rx ry hq
  obtain ⟨f, fd, m, b, F⟩ := M.ex
  obtain ⟨a, c, dx, dy, fs, gs, rfl, rfl, ha, hb, hsp⟩ := hq
  cases rx
  cases ry
  obtain ⟨h1, h2⟩ := He.ba hn
  obtain ⟨ox, od, J⟩ := inst_at I ha
  obtain ⟨oy, od', J'⟩ := inst_at I hb
  obtain ⟨mm, hF⟩ := I.fr
  show wpAny (model X.prog X.w) X.A (richCompare .NotEq (.ref a) (.ref c)) (EP X pins σ Q) X.xe s
  refine PySem.W.fx_ne_K (tb := .ref C) (by have := hr.un; omega) hF I.ok.mod.kin J J'.type (by simp [PySem.W.notFirst]) (of_decide_eq_true h1) m.at_ m.fn (of_decide_eq_true h2) ?_
  refine wpAny_mono (run_fnA (A := X.A.in1) (vs := [.ref a, .ref c]) (us := [.ref a, .ref c]) rfl F hr.in1 b hx I (.cons rfl (.cons rfl .nil)) hsp) (fun v s' hv => ?_) fun _ _ z => z
  obtain ⟨z, H', I', rz, r, rfl, q⟩ := hv
  cases rz
  exact ⟨r, rfl, .bl (!r), H', I', rfl, q⟩
/-- o[i] -/
def rIxO (C : Addr) (sp : Sp) (E : XK) : R2 := fun x y H Q => ∃ a dx fs, x = .ref a ∧ H a = some (.ins C dx fs) ∧ sp [.ref a, y] H Q E
def ixB (K : PySem.W.Frag) (C : Addr) : Bool := match PySem.W.findIn K (.ref C) "__getitem__" with
  | some (some (.ref f)) => PySem.W.fnIn K f
  | _ => false
theorem pe_ixO {ae be : Expr} {ta tb : TE} {pos : Pos} (M : CalM X.prog X.w X.K X.mg X.base CX k C "__getitem__" ps sp) (hr : Room (k + 1) X.A) (hx : Passes CX X E) (ha : PE X ae ta) (hb : PE X be tb)
    (hs : ∀ v u, subscripted be true v u = runValue (.builtin "lifetime.subscript" ⟨[v, u], []⟩)) (hfn : ixB X.K C = true) : PE X (.Subscript ae be pos) (tOp (rIxO C sp E) ta tb) := by
  obtain ⟨f, fd, m, b, F⟩ := M.ex
  refine ⟨fun pins s σ H Q I h => ?_⟩
  refine Subscript_ (binT ha hb I h fun v u s2 x y H2 I2 rx ry q => ?_)
  obtain ⟨a, dx, fs, rfl, hA, hsp⟩ := q
  cases rx
  obtain ⟨ox, od, J⟩ := inst_at I2 hA
  obtain ⟨mm, hF⟩ := I2.fr
  refine PySem.W.sub_K hF I2.ok.mod.kin J m.at_ (by unfold ixB at hfn; rw [m.at_] at hfn; exact hfn) m.fn ?_ (hs _ _)
  exact run_fnA (A := X.A.in1) (vs := [.ref a, y]) (us := [.ref a, u]) rfl F hr.in1 b hx I2 (.cons rfl (.cons ry .nil)) hsp
end
end Fx
namespace Fx
open PySem PySem.Spec PyProof.Rows L2
/-! ### a tuple whose object is known (its methods may be called) -/
def FT (H : Hp) (p : Addr) (xs : List V) : Prop := ∃ ob : Obj, H p = some (.frz ob (.tup xs)) ∧ ob.dict = none
theorem FT.same {H H' : Hp} {p : Addr} {xs : List V} (h : FT H p xs) (s : Same H H') : FT H' p xs := by
  obtain ⟨ob, h, d⟩ := h
  exact ⟨ob, s _ _ h, d⟩
theorem FT.kp {b : Addr} {H H' : Hp} {p : Addr} {xs : List V} (h : FT H p xs) (B : Bag H b) (k : Kp b H H') : FT H' p xs := by
  obtain ⟨ob, h, d⟩ := h
  refine ⟨ob, k.keep _ _ ?_ h, d⟩
  obtain ⟨kvs, hb⟩ := B.some
  exact ne_of h hb (by intro z; cases z)
theorem FT.sq {K : PySem.W.Frag} {H : Hp} {p : Addr} {xs : List V} (h : FT H p xs) : SqT K H p xs := by
  obtain ⟨ob, h, _⟩ := h
  exact .inl (.inr ⟨ob, h⟩)
section
variable {X : Cx}
/-- tuple(xs) -/
def rTupF : List V → Hp → VK → Prop := fun vs H Q => ∃ p, vs = [.ref p] ∧ ∃ ys, H p = some (.lst ys) ∧ ∀ l H', H l = none → Same H H' → FT H' l ys → Q (.ref l) H'
theorem tup_F : CallR X (.type "tuple") rTupF := by
  intro pins s σ H xs us Q I r h
  obtain ⟨p, rfl, ys, hp, q⟩ := h
  obtain ⟨u, rfl, rx⟩ := r.one
  cases rx
  obtain ⟨its, r', pl, hz⟩ := I.list (xs := ys) (.inl (.inl hp))
  have hlen := r'.length
  refine call_tuple_list pl.isList (fun h' kp => ?_) (by simp only [List.size_toArray] <;> omega)
  have I1 : Inv X pins σ H { s with heap := h' } := I.kept (t' := s.toks) kp
  have I2 : Inv X pins σ (upd H h'.objs.size (.frz { cls := .type "tuple", data := .seq its.toArray } (.tup ys))) { s with heap := h'.push { cls := .type "tuple", data := .seq its.toArray } } :=
    I1.laid (t' := s.toks) (fun b o e => Heap.get?_push_of_some _ e) (Nat.le_refl _) (show ObjOk X.prog X.w _ _ _ (.frz _ (.tup ys)) from ⟨Heap.get?_push_size _ rfl, hz, its, r', IsTup.new _ _⟩)
  have nl : H h'.objs.size = none := I1.hok.fresh (Nat.le_refl _)
  exact ⟨.ref h'.objs.size, _, I2, rfl, q _ _ nl (same_new nl) ⟨_, upd_same, rfl⟩⟩
end
end Fx
namespace Fx
open PySem PySem.Spec PyProof.Rows L2
/-! ### iter(t), t a tuple; list(o) of an instance whose __iter__ says iter(self.f) -/
def TItO (p it : Addr) (i : Nat) : HO := .ext fun h => h.IsTupleIter it p i
def EndO (it : Addr) : HO := .ext fun h => ∃ o, h.get? it = some o
theorem titO_ok {P : Program} {w : World} {H : Hp} {h : Heap} {p it : Addr} {i : Nat} (e : h.IsTupleIter it p i) : ObjOk P w H h it (TItO p it i) := ⟨e, let ⟨o, ho, _⟩ := e; ⟨o, ho⟩, fun h1 h2 q k => let ⟨o, ho, r⟩ := q; ⟨o, k _ ho, r⟩⟩
theorem endO_ok {P : Program} {w : World} {H : Hp} {h : Heap} {it : Addr} (e : ∃ o, h.get? it = some o) : ObjOk P w H h it (EndO it) := ⟨e, e, fun h1 h2 q k => let ⟨o, ho⟩ := q; ⟨o, k _ ho⟩⟩
section
variable {prog : Program} {w : World} {A : Around} {E : Value → Shared → Prop} {s : Shared}
theorem call_iterT0 {t : Addr} {items : Array Value} {Q : Value → Shared → Prop} (hl : s.heap.IsTuple t items) (h : Q (.ref s.heap.objs.size) { s with heap := s.heap.push { cls := .type "tuple_iterator", data := .fields #[.ref t, .int 0 0] } }) : wpAny (model prog w) A (call (.builtin "iter") [.ref t]) Q E s := by
  refine Calls.call_function_entry (by decide +kernel) (by decide +kernel) PySem.W.kdk_entry_iter (PySem.W.kdk_args_iter _) ?_
  unfold Builtin.«iter»
  refine wpAny_bind (m := someArgs "iter" 1 2 _) (wpAny_of_eq (a := [Value.ref t]) (by first | rfl | kernel_rfl!) ?_)
  show wpAny _ _ (pyIter (.ref t) >>= _) _ _ _
  refine wpAny_bind (wpAny_pyIter_tuple hl ?_)
  exact wpAny_pure ⟨_, rfl, h⟩
/-- the end, with the iterator still there -/
theorem next_tuple_end {it t : Addr} {i : Nat} {items : Array Value} {Q : Option Value → Shared → Prop} (hh : A.handled = none)
    (hit : s.heap.IsTupleIter it t i) (ht : s.heap.IsTuple t items) (hx : items[i]? = none)
    (hQ : ∀ h', Heap.ExtBut it s.heap h' → (∃ o, h'.get? it = some o) → Q none { s with heap := h' }) : wpAny (model prog w) A (pyNext (.ref it)) Q E s := by
  obtain ⟨o, ho, hc, hd⟩ := id hit
  obtain ⟨ol, hol, _, nl, hdl⟩ := ht
  unfold pyNext
  refine wpAny_bind (wpAny_attempt (wpAny_callSpecial?_slot (name := Str.ofString "__next__") hit.typeIs PySem.F.slot_tuple_iterator_next
    (wpAny_call_entry PySem.F.slot_tuple_iterator_next hit.typeIs PySem.F.entry_tuple_iterator_next ?_ (PySem.F.args_tuple_iterator_next_1 _))))
  show wpAny _ _ (field (.ref it) 0 >>= _) _ _ s
  refine wpAny_bind (wpAny_field ho hd (x := .ref t) rfl ?_)
  show wpAny _ _ (if (Value.ref t == Value.none) = true then _ else _) _ _ s
  rw [if_neg (show ¬ ((Value.ref t == Value.none) = true) from Bool.false_ne_true)]
  show wpAny _ _ (field (.ref it) 1 >>= _) _ _ s
  refine wpAny_bind (wpAny_field ho hd (x := .int i 0) rfl ?_)
  show wpAny _ _ (seqItems? (.ref t) >>= _) _ _ s
  refine wpAny_bind (wpAny_seqItems hol hdl ?_)
  simp only [Int.toNat_natCast, hx]
  refine wpAny_bind (wpAny_rule (wpAny_bind (wpAny_setField ho hd (by simp) ?_)))
  show wpAny _ _ (newExc (.type "StopIteration") [] >>= _) _ _ _
  refine wpAny_bind ?_
  simp only [newExc, newTuple]
  refine wpAny_bind (wpAny_newObj_type ?_ (by size_fits))
  refine wpAny_bind (m := firstArgMember _ _) (wpAny_of_eq (a := Value.none) (by first | rfl | (simp only [firstArgMember]; rfl)) ?_)
  refine wpAny_newObj_type ?_ (by size_fits)
  simp only [raiseNew]
  refine wpAny_bind (wpAny_handled ?_)
  first | rw [show A.in1.handled = none from hh] | rw [hh]
  refine wpAny_bind (wpAny_pure (wpAny_throw ?_))
  refine wpAny_bind (wpAny_isInstance (T := "StopIteration") (b := true) ⟨_, Heap.get?_push_size _ rfl, rfl⟩ isSubtype_stop ?_)
  refine wpAny_pure (hQ _ (((Heap.SameBut.update ..).extBut.push _).push _) ⟨_, Heap.get?_push_of_some _ (Heap.get?_push_of_some _ (Heap.get?_update_self _ ho (Obj.isFreed_of_fields (Obj.data_mapFields hd _))))⟩)
end
section
variable {X : Cx}
/-- iter(t) -/
def rIterT : List V → Hp → VK → Prop := fun xs H Q => ∃ t, xs = [.ref t] ∧ ∃ zs, FT H t zs ∧ ∀ it, H it = none → Q (.ref it) (upd H it (TItO t it 0))
theorem iter_T : CallR X (.builtin "iter") rIterT := by
  intro pins s σ H xs us Q I r h
  obtain ⟨t, rfl, zs, hq, q⟩ := h
  obtain ⟨u, rfl, ru⟩ := r.one
  cases ru
  obtain ⟨its, rv, pl, hz⟩ := I.tuple (xs := zs) hq.sq
  refine call_iterT0 pl ?_
  exact ⟨.ref s.heap.objs.size, _, I.laid (t' := s.toks) (fun b u e => Heap.get?_push_of_some _ e) (Nat.le_refl _) (titO_ok ⟨_, Heap.get?_push_size _ rfl, rfl, rfl⟩), rfl, q _ (I.hok.fresh (Nat.le_refl _))⟩
theorem upd_in {H : Hp} {a b : Addr} {o u v : HO} (h : a ≠ b) : upd (upd (upd H a o) b u) a v = upd (upd H a v) b u := by
  funext c
  unfold upd
  by_cases h1 : c = a
  · have h2 : c ≠ b := fun e => h (h1.symm.trans e)
    rw [if_pos h1, if_neg h2, if_pos h1]
  · rw [if_neg h1]
    by_cases h2 : c = b
    · rw [if_pos h2, if_pos h2]
    · rw [if_neg h2, if_neg h2, if_neg h1, if_neg h1]
variable {pins : List (Addr × Obj)} {σ : L2.St} {A1 : Around}
theorem tup_loop {H0 : Hp} {p it q : Addr} {ys : List V} {Rs : Result → Shared → Prop} (hh : A1.handled = none) (hiq : it ≠ q) (hpi : p ≠ it) (hpq : p ≠ q) (hp : FT H0 p ys) (hl : ys.length ≤ sizeLine)
    (hdone : ∀ s, Inv X pins σ (upd (upd H0 it (EndO it)) q (.lst ys)) s → Rs (.ok (.ret .none)) s) :
    ∀ (m i : Nat) (s : Shared), ys.length - i = m → i ≤ ys.length → Inv X pins σ (upd (upd H0 it (TItO p it i)) q (.lst (ys.take i))) s → codeAny (model X.prog X.w) A1 (.builtin "list.extend.loop" ⟨[.ref q, .ref it, .none], []⟩) Rs s := by
  intro m
  induction m with
  | zero =>
    intro i s hm hi I
    have ei : i = ys.length := by omega
    refine codeAny_builtin PySem.F.entry_extend_loop ?_
    rw [Around.under_plainId PySem.F.plain_extend_loop _]
    show wpAny _ A1.in1 (pyNext (.ref it) >>= _) _ _ s
    have hH : upd (upd H0 it (TItO p it i)) q (.lst (ys.take i)) it = some (TItO p it i) := by rw [upd_ne hiq, upd_same]
    have hP : FT (upd (upd H0 it (TItO p it i)) q (.lst (ys.take i))) p ys := by
      obtain ⟨ob, hp, hd⟩ := hp
      exact ⟨ob, by rw [upd_ne hpq, upd_ne hpi]; exact hp, hd⟩
    have hit : s.heap.IsTupleIter it p i := (I.hok it _ hH).1
    obtain ⟨its, rv, pl, hz⟩ := I.tuple (xs := ys) hP.sq
    refine wpAny_bind (next_tuple_end (A := A1.in1) hh hit pl (by rw [List.getElem?_toArray]; exact rv.none_of (by rw [ei]; exact List.getElem?_eq_none (Nat.le_refl _))) fun h' eb ex => ?_)
    refine wpAny_pure (hdone _ ?_)
    have mu : Mut (upd (upd H0 it (TItO p it i)) q (.lst (ys.take i)) it) := by rw [hH]; exact True.intro
    have I2 := I.write (x := it) (e := it) (t' := s.toks) mu (.inl rfl) (fun b o nb z => eb b o nb z) ex (endO_ok (H := upd (upd (upd H0 it (TItO p it i)) q (.lst (ys.take i))) it (EndO it)) ex)
    rw [upd_in hiq, ei, List.take_length] at I2
    exact I2
  | succ m ih =>
    intro i s hm hi I
    have hlt : i < ys.length := by omega
    refine codeAny_builtin PySem.F.entry_extend_loop ?_
    rw [Around.under_plainId PySem.F.plain_extend_loop _]
    show wpAny _ A1.in1 (pyNext (.ref it) >>= _) _ _ s
    have hH : upd (upd H0 it (TItO p it i)) q (.lst (ys.take i)) it = some (TItO p it i) := by rw [upd_ne hiq, upd_same]
    have hP : FT (upd (upd H0 it (TItO p it i)) q (.lst (ys.take i))) p ys := by
      obtain ⟨ob, hp, hd⟩ := hp
      exact ⟨ob, by rw [upd_ne hpq, upd_ne hpi]; exact hp, hd⟩
    have hit : s.heap.IsTupleIter it p i := (I.hok it _ hH).1
    obtain ⟨its, rv, pl, hz⟩ := I.tuple (xs := ys) hP.sq
    obtain ⟨u, hu, ru⟩ := rv.get (List.getElem?_eq_getElem hlt)
    refine wpAny_bind (wpAny_pyNext_tuple_item hit pl (x := u) (by rw [List.getElem?_toArray]; exact hu) fun h' e' sb => ?_)
    have mu : Mut (upd (upd H0 it (TItO p it i)) q (.lst (ys.take i)) it) := by rw [hH]; exact True.intro
    have ex : ∃ o, h'.get? it = some o := let ⟨o, ho, _⟩ := e'; ⟨o, ho⟩
    have I2 := I.write (x := it) (e := it) (t' := s.toks) mu (.inl rfl) (fun b o nb z => (sb.2 b nb).trans z) ex (titO_ok (H := upd (upd (upd H0 it (TItO p it i)) q (.lst (ys.take i))) it (TItO p it (i + 1))) e')
    rw [upd_in hiq] at I2
    have hq2 : upd (upd H0 it (TItO p it (i + 1))) q (.lst (ys.take i)) q = some (.lst (ys.take i)) := upd_same
    obtain ⟨z, its2, k, r2, hl2, e2⟩ := I2.lstM hq2
    show wpAny _ A1.in1 (updateSeq q (·.push u) >>= _) _ _ _
    have lt : (ys.take i).length = i := by rw [List.length_take]; omega
    refine wpAny_bind (wpAny_updateSeq e2 rfl (wpAny_pure ⟨plainId_quiet PySem.F.plain_extend_loop _, ?_⟩) (by rw [List.size_toArray]; omega) (by show (its2.toArray.push u).size ≤ sizeLine + 1; rw [Array.size_push, List.size_toArray]; omega))
    have I3 := I2.lset (f := (·.push u)) (its' := its2 ++ [u]) (ys := ys.take i ++ [ys[i]]) (t' := s.toks) hq2 e2 (by simp) (r2.append (.cons ru .nil)) (by rw [List.length_append, List.length_singleton]; omega)
    rw [upd_upd, List.take_append_getElem hlt] at I3
    exact ih (i + 1) _ (by omega) hlt I3
end
end Fx
namespace Fx
open PySem PySem.Spec PyProof.Rows L2
section
variable {X : Cx} {k : Nat} {C : Addr} {psI psL : List Str} {spI spL : Sp}
theorem run_fn0 {A : Around} {f : Addr} {fd : FuncData} {ps : List Str} {sp : Sp} {E' : Value → Shared → Prop} {pins : List (Addr × Obj)} {σ : L2.St} {H : Hp} {s : Shared} {Q : VK} {us : List Value} {vs : List V} (hA : A.frames = X.A.frames) (F : FnOk X.prog X.w X.K X.mg X.base CX0 k f fd ps sp) (hr : Room k A) (hb : Binds X.K fd ps [])
    (I : Inv X pins σ H s) (r : Vals vs us) (h : sp vs H Q E0) : wpAny (model X.prog X.w) A (call (.ref f) us) (EP X pins σ Q) E' s := by
  have e0 : Env0 X.prog X.w X.K X.mg X.base A X.stack s H := by
    have e := I.env0
    exact ⟨by rw [hA]; exact e.frames, e.mod, e.bs, e.bsz, e.funs, e.frf, e.hok, e.bare⟩
  have hl : us.length = ps.length := by rw [← r.length]; exact F.len _ _ _ _ h
  have b := hb s us I.kIn (by rw [List.append_nil]; exact hl)
  rw [List.append_nil] at b
  refine wpAny_call (codeAny_mono (F.run A X.stack s H ⟨us, []⟩ us vs Q E0 hr e0 b r h) fun r s' hq => ?_)
  cases r with
  | error e => exact False.elim hq
  | ok fl =>
    cases fl with
    | ret u => exact I.after hq
    | next => exact False.elim hq
    | brk => exact False.elim hq
    | cont => exact False.elim hq
/-- the own __len__ tells the length ahead of the filling -/
theorem own_hintL {A : Around} {pins : List (Addr × Obj)} {σ : L2.St} {H : Hp} {s : Shared} {a dx : Addr} {fs : List (Str × V)} {Q : Bool → Shared → Prop} (hA : A.frames = X.A.frames) (M : CalM X.prog X.w X.K X.mg X.base CX0 k C "__len__" psL spL) (hr : Room (k + 1) A) (I : Inv X pins σ H s) (ha : H a = some (.ins C dx fs))
    {R : Hp → Prop} (hsp : spL [.ref a] H (fun v H' => ∃ n, v = .int n ∧ 0 ≤ n ∧ n ≤ 1000000 ∧ R H') E0) (hq : ∀ b H' s', Inv X pins σ H' s' → R H' → Q b s') : wpAny (model X.prog X.w) A (Builtin.List.listLengthHint (.ref a)) Q X.xe s := by
  obtain ⟨f, fd, m, b, F⟩ := M.ex
  obtain ⟨ox, od, J⟩ := inst_at I ha
  obtain ⟨mm, hF⟩ := I.fr
  unfold Builtin.List.listLengthHint
  refine wpAny_bind (wpAny_bind (J.type.here ((PySem.W.looks_findIn I.kIn m.at_).here ?_)))
  refine PySem.W.KFB.if_not rfl ?_
  refine PySem.W.KFB.if_so rfl ?_
  refine wpAny_bind (wpAny_rule ?_)
  refine wpAny_bind (wpAny_attempt (PySem.W.len_K hF I.ok.mod.kin J m.at_ m.fn ?_))
  refine wpAny_mono (run_fn0 (E' := fun _ _ => False) (A := A.in1) (vs := [.ref a]) (us := [.ref a]) hA F hr.in1 b I (.cons rfl .nil) hsp) (fun v s' hv => ?_) fun _ _ z => z.elim
  obtain ⟨z, H', I', rz, n, rfl, h0, h1, r⟩ := hv
  obtain ⟨t, rfl⟩ := rz
  refine ⟨⟨h0, by omega⟩, ?_⟩
  have tl : Builtin.List.listTooLong n.toNat = false := by
    unfold Builtin.List.listTooLong
    rw [decide_eq_false_iff_not, sizeLine_eq]
    omega
  show wpAny _ _ (asInt? (.int n _) >>= _) _ _ _
  refine wpAny_bind (wpAny_of_eq (a := some n) (by first | rfl | (simp only [asInt?]; rfl)) ?_)
  refine PySem.W.KFB.if_not tl ?_
  exact wpAny_pure (hq _ H' _ (I'.tok _) r)
/-- list(o) -/
def rListO (C : Addr) (spI spL : Sp) : List V → Hp → VK → Prop := fun xs H Q => ∃ a, xs = [.ref a] ∧ ∃ dx fs, H a = some (.ins C dx fs) ∧ ∀ q, H q = none → spI [.ref a] (upd H q (.lst [])) (fun v H1 => ∃ it, v = .ref it ∧ ∃ p, H1 it = some (TItO p it 0) ∧ ∃ dx fs, H1 a = some (.ins C dx fs) ∧
  spL [.ref a] H1 (fun v2 H2 => ∃ n, v2 = .int n ∧ 0 ≤ n ∧ n ≤ 1000000 ∧ H2 it = some (TItO p it 0) ∧ H2 q = some (.lst []) ∧ ∃ ys, FT H2 p ys ∧ Q (.ref q) (upd (upd H2 it (EndO it)) q (.lst ys))) E0) E0
theorem list_O (MI : CalM X.prog X.w X.K X.mg X.base CX0 k C "__iter__" psI spI) (ML : CalM X.prog X.w X.K X.mg X.base CX0 k C "__len__" psL spL) (hc : X.calm = true) (hr : Room (k + 3) X.A) : CallR X (.type "list") (rListO C spI spL) := by
  intro pins s σ H xs us Q I rv h
  obtain ⟨a, rfl, dx, fs, ha, hq⟩ := h
  obtain ⟨u, rfl, ru⟩ := rv.one
  cases ru
  refine callType_codes (Q₁ := fun obj s₁ => obj = .ref s.heap.objs.size ∧ s₁ = { s with heap := s.heap.push { cls := .type "list", data := .seq #[] } }) PySem.F.called_list (PySem.F.typeCall_list_1 _) PySem.F.entry_list_init
    (code_list_new _ ⟨rfl, rfl⟩) fun obj s₁ h₁ => ?_
  obtain ⟨rfl, rfl⟩ := h₁
  have hS : (s.heap.push { cls := .type "list", data := .seq #[] }).get? s.heap.objs.size = some { cls := .type "list", data := .seq #[] } := Heap.get?_push_size _ rfl
  refine ⟨⟨_, hS, rfl⟩, PySem.F.args_list_init_2 _ _, ?_⟩
  have fr : H s.heap.objs.size = none := I.hok.fresh (Nat.le_refl _)
  have hq := hq _ fr
  have I1 : Inv X pins σ (upd H s.heap.objs.size (.lst [])) { s with heap := s.heap.push { cls := .type "list", data := .seq #[] } } := I.lnew (its := []) (t' := s.toks) .nil (Nat.zero_le _)
  show wpAny _ _ (do let old ← Builtin.List.listItems (.ref s.heap.objs.size); Builtin.List.listUpdate (.ref s.heap.objs.size) (fun _ => #[]); letGo old.toList.reverse; Builtin.List.listExtendWith (.ref s.heap.objs.size) (.ref a) .none) _ _ _
  refine wpAny_bind ?_
  unfold Builtin.List.listItems
  refine wpAny_bind (wpAny_seqItems hS rfl (wpAny_pure ?_))
  show wpAny _ _ (updateSeq s.heap.objs.size (fun _ => #[]) >>= fun _ => letGo (#[] : Array Value).toList.reverse >>= fun _ => Builtin.List.listExtendWith (.ref s.heap.objs.size) (.ref a) .none) _ _ _
  refine wpAny_bind (wpAny_updateSeq hS rfl ?_)
  have I2 := I1.lset (f := fun _ => #[]) (its := []) (its' := []) (ys := []) (t' := s.toks) upd_same hS rfl .nil (Nat.zero_le _)
  rw [upd_upd] at I2
  refine wpAny_bind (wpAny_letGo ?_)
  have ha2 : upd H s.heap.objs.size (.lst []) a = some (.ins C dx fs) := by rw [upd_ne (ne_of_none ha fr)]; exact ha
  generalize s.heap.objs.size = q at *
  have hne : q ≠ a := fun e => by
    rw [e, ha] at fr
    cases fr
  obtain ⟨fi, fdi, mi, bi, Fi⟩ := MI.ex
  obtain ⟨ox, od, J⟩ := inst_at I2 ha2
  obtain ⟨mm, hF⟩ := I2.fr
  have hr1 : Room k X.A.in1.in1 := (Room.in1 (Room.in1 hr)).mono (Nat.le_succ _)
  unfold Builtin.List.listExtendWith
  refine wpAny_bind (J.type.here ?_)
  have h1 : Builtin.List.listSameRef (.ref q) (.ref a) = false := by simp [Builtin.List.listSameRef, hne]
  have h2 : (Value.ref C == Value.type "list") = false := rfl
  have h3 : (Value.ref C == Value.type "tuple") = false := rfl
  simp only [h1, h2, h3, Bool.or_false, Bool.false_eq_true, if_false]
  refine wpAny_bind (PySem.W.owit_iter hF I2.ok.mod.kin J mi.at_ mi.fn ?_)
  refine wpAny_mono (run_fn0 (E' := fun _ _ => False) (A := X.A.in1.in1) (vs := [.ref a]) (us := [.ref a]) rfl Fi hr1 bi I2 (.cons rfl .nil) hq) (fun v s' hv => ?_) fun _ _ z => z.elim
  obtain ⟨z, H1, I3, rz, it, rfl, p, hit, dx1, fs1, ha3, hsp⟩ := hv
  cases rz
  have hit0 : s'.heap.IsTupleIter it p 0 := (I3.hok it _ hit).1
  unfold PySem.W.OwitIt
  refine wpAny_specialOf (name := Str.ofString "__next__") hit0.typeIs PySem.F.slot_tuple_iterator_next.lookup ?_
  refine wpAny_bind (wpAny_holding ?_)
  refine own_hintL (A := X.A.in1.in1) rfl ML ((Room.in1 (Room.in1 hr))) I3 ha3 (R := fun H2 => H2 it = some (TItO p it 0) ∧ H2 q = some (.lst []) ∧ ∃ ys, FT H2 p ys ∧ Q (.ref q) (upd (upd H2 it (EndO it)) q (.lst ys))) hsp (fun room H2 s2 I4 hR => ?_)
  obtain ⟨hi2, hq2, ys, hp2, hQ⟩ := hR
  have hiq : it ≠ q := ne_of hi2 hq2 (by unfold TItO; intro z; cases z)
  obtain ⟨obp, hpp, hpd⟩ := id hp2
  have hpi : p ≠ it := ne_of hpp hi2 (by unfold TItO; intro z; cases z)
  have hpq : p ≠ q := ne_of hpp hq2 (by intro z; cases z)
  have hl : ys.length ≤ sizeLine := (I4.hok p _ hpp).2.1
  have e0 : upd (upd H2 it (TItO p it 0)) q (.lst (ys.take 0)) = H2 := by
    funext c
    unfold upd
    by_cases h1 : c = q
    · rw [if_pos h1, h1]
      exact hq2.symm
    · rw [if_neg h1]
      by_cases h2 : c = it
      · rw [if_pos h2, h2]
        exact hi2.symm
      · rw [if_neg h2]
  have go : ∀ s3, Inv X pins σ H2 s3 → codeAny (model X.prog X.w) X.A.in1 (.builtin "list.extend.loop" ⟨[.ref q, .ref it, .none], []⟩) (wants (fun r s₂ => r = .none ∧ EP X pins σ Q (.ref q) s₂) X.xe) s3 := fun s3 I5 =>
    tup_loop (A1 := X.A.in1) (H0 := H2) (show X.A.in1.handled = none from I5.ok.hd hc) hiq hpi hpq hp2 hl (fun s4 I6 => ⟨rfl, .ref q, _, I6, rfl, hQ⟩) ys.length 0 s3 (by omega) (Nat.zero_le _) (by rw [e0]; exact I5)
  obtain ⟨z, its, kk, r3, hl3, e3⟩ := I4.lstM hq2
  cases r3
  refine wpAny_ite_split (fun _ => ?_) (fun _ => wpAny_pure ⟨plainId_quiet PySem.F.plain_extend_loop _, go _ I4⟩)
  refine wpAny_bind (wpAny_rule ?_)
  refine wpAny_bind ?_
  show wpAny _ _ (updateSeq q (·.push .none) >>= fun _ => updateSeq q (·.pop)) _ _ _
  refine wpAny_bind (wpAny_updateSeq e3 rfl ?_)
  have J2 := I4.lset (f := (·.push Value.none)) (its' := [Value.none]) (ys := [.non]) (t' := s2.toks) hq2 e3 (by simp) (.cons rfl .nil) (by rw [List.length_singleton, sizeLine_eq]; decide)
  obtain ⟨z4, its4, k4, r4, hl4, e4⟩ := J2.lstM upd_same
  obtain ⟨u4, rfl, ru4⟩ := r4.one
  refine wpAny_updateSeq e4 rfl ?_ (by show 1 ≤ sizeLine; rw [sizeLine_eq]; decide) (by show 0 ≤ sizeLine + 1; exact Nat.zero_le _)
  refine wpAny_pure ⟨plainId_quiet PySem.F.plain_extend_loop _, go _ ?_⟩
  have J3 := J2.lset (f := (·.pop)) (its := [u4]) (its' := []) (ys := []) (t' := s2.toks) upd_same e4 (by rfl) .nil (Nat.zero_le _)
  rw [upd_upd] at J3
  have hH : upd H2 q (.lst []) = H2 := by
    funext b
    by_cases hb : b = q
    · rw [hb, upd_same, hq2]
    · rw [upd_ne hb]
  rw [hH] at J3
  exact J3
end
end Fx
namespace Fx
open PySem PySem.Spec PyProof.Rows L2
/-! ### __init__ with one default -/
structure CalID (P : Program) (w : World) (K : PySem.W.Frag) (mg : Str → Option Value) (base : Heap) (CX : CXT) (k : Nat) (C : Addr) (ps : List Str) (dv : V) (sp : Sp) : Prop where
  ex : ∃ f fd ds, Mk K C f ∧ Binds K fd ps [] ∧ Vals [dv] ds ∧ Binds K fd ps ds ∧ FnOk P w K mg base CX k f fd ps sp
section
variable {P : Program} {w : World} {K : PySem.W.Frag} {mg : Str → Option Value} {base : Heap} {CX : CXT} {k : Nat} {C : Addr} {ps : List Str} {dv : V} {sp : Sp}
theorem CalID.full (M : CalID P w K mg base CX k C ps dv sp) : CalI P w K mg base CX k C ps sp := by
  obtain ⟨f, fd, ds, m, b, _, _, F⟩ := M.ex
  exact ⟨f, fd, m, b, F⟩
/-- how its parameters are bound: all are given; the last one lacks -/
abbrev BindD (x q : Str) (st : Stmt) (ps : List Str) (n j : Nat) : Prop := ∀ (T : Addr) (kV doc pm : Value) (an : Option Addr) (cdv ct : Value) (us its : List Value), us.length = n → its.length = 1 →
  ∃ k, bindArgs (PySem.W.fnOf x q (defArgs st) (defBody st) (defScope st) (.ref T) kV doc pm an cdv ct) ⟨us, []⟩ = seqItems? (.ref T) >>= k ∧ k (some its.toArray) = pure (ps.zip (us ++ its.drop j))
theorem calID_of {x q : Str} {st : Stmt} {f : Addr} {fd : FuncData} (F : FunD K x q (defArgs st) (defBody st) (defScope st) [dv] [] f fd) (M : Mk K C f) (n : Nat) (hn : n + 1 = ps.length) (b1 : BindD x q st ps (n + 1) 1) (b0 : BindD x q st ps n 0) (ok : FnOk P w K mg base CX k f fd ps sp) : CalID P w K mg base CX k C ps dv sp := by
  obtain ⟨ds1, v1, B1⟩ := F.binds1 (ps := ps) (n + 1) 1 (by simp) (by simpa using hn) b1
  obtain ⟨ds0, v0, B0⟩ := F.binds1 (ps := ps) n 0 (by simp) (by simpa using hn) b0
  have e : ds1 = [] := by
    cases v1
    rfl
  subst e
  exact ⟨f, fd, ds0, M, B1, v0, B0, ok⟩
theorem ok0D {x qual : Str} {st : Stmt} {N : List Str} {dvs : List V} {f : Addr} {fd : FuncData} (F : FunD K x qual (defArgs st) (defBody st) (defScope st) dvs [] f fd) (sc : FnScope N ps (defScope st)) (len : ∀ vs H Q E, sp vs H Q E → vs.length = ps.length)
    (hbody : ∀ (f : Addr) (cdv : Value) (A : Around) (outer : List Env) (s : Shared) (H : Hp) (vs : List V) (Q : VK) (E : XK), Room k (A.deeper (envOfC qual (defScope st) s.heap.objs.size f cdv)) → sp vs H Q E →
      ∃ t, PSs (cxOf CX0 P w K mg base N qual (defScope st) f cdv A outer s H E).nox (defBody st) t ∧ t { nx := fun _ H' => Q .non H', rt := Q } (L2.start N vs) H) : FnOk P w K mg base CX0 (k + 1) f fd ps sp := by
  refine F.ok sc len fun cdv A outer s H vs Q E hr hsp => ?_
  obtain ⟨t, h, q⟩ := hbody f cdv A outer s H vs Q E hr hsp
  exact ⟨t, h.nox, q⟩
theorem okXD {x qual : Str} {st : Stmt} {N : List Str} {dvs : List V} {f : Addr} {fd : FuncData} (F : FunD K x qual (defArgs st) (defBody st) (defScope st) dvs [] f fd) (sc : FnScope N ps (defScope st)) (len : ∀ vs H Q E, sp vs H Q E → vs.length = ps.length)
    (hbody : ∀ (f : Addr) (cdv : Value) (A : Around) (outer : List Env) (s : Shared) (H : Hp) (vs : List V) (Q : VK) (E : XK), Room k (A.deeper (envOfC qual (defScope st) s.heap.objs.size f cdv)) → sp vs H Q E →
      ∃ t, PSs (cxOf (L2.CX P w) P w K mg base N qual (defScope st) f cdv A outer s H E) (defBody st) t ∧ t { nx := fun _ H' => Q .non H', rt := Q } (L2.start N vs) H) : FnOk P w K mg base (L2.CX P w) (k + 1) f fd ps sp :=
  F.ok sc len fun cdv A outer s H vs Q E hr hsp => hbody f cdv A outer s H vs Q E hr hsp
end
section
variable {X : Cx} {x : Str} {C : Addr} {ps : List Str} {dv : V} {sp : Sp} {k : Nat} {CX : CXT} {E : XK} {e : Expr} {es : List Expr} {t : TA} {p pos : Pos}
/-- C(e, ..), the last one by its default -/
theorem pe_mkD (M : CalID X.prog X.w X.K X.mg X.base CX k C ps dv sp) (hr : Room (k + 1) X.A) (hm : X.mg x = some (.ref C)) (hx : Passes CX X E) (ha : PA X (e :: es) t) (hg : Gl X x := by rfl) (hdb : (x == ("__debug__" : Str)) = false := by decide)
    (hs : (e :: es).all nostar = true := by rfl) : PE X (.Call (.Name x p) (e :: es) [] pos) (tMake C sp [dv] E t) := by
  obtain ⟨f, fd, ds, m, _, vd, b, F⟩ := M.ex
  simp only [List.all_cons, Bool.and_eq_true] at hs
  exact pe_make m F hr hg hm b vd hx ha hdb (star_ok hs.1) (back_ok hs.2)
theorem pe_mkD0 (M : CalID X.prog X.w X.K X.mg X.base CX k C ps dv sp) (hr : Room (k + 1) X.A) (hm : X.mg x = some (.ref C)) (hx : Passes CX X E) (hg : Gl X x := by rfl) (hdb : (x == ("__debug__" : Str)) = false := by decide) : PE X (.Call (.Name x p) [] [] pos) (tMake C sp [dv] E tNil) := by
  obtain ⟨f, fd, ds, m, _, vd, b, F⟩ := M.ex
  exact pe_make0 m F hr hg hm b vd hx hdb
end
end Fx
/-! Lists and tuples of texts: sorted, in, index; list(dict) -/
namespace Fx
open PySem PySem.Spec PyProof.Rows L2
abbrev ms (l : List Str) : List V := l.map V.str
section
variable {X : Cx}
/-- sorted(xs), texts, any number of them -/
def rSortS : List V → Hp → VK → Prop := fun vs H Q => ∃ a, vs = [V.ref a] ∧ ∃ xs : List Str, H a = some (.lst (ms xs)) ∧ ∀ (ys : List Str) (p : Addr), ys.Perm xs → sortedS ys = true → H p = none → Q (.ref p) (upd H p (.lst (ms ys)))
theorem sort_S : CallR X (.builtin "sorted") rSortS := by
  intro pins s σ H vs us Q I r h
  obtain ⟨a, rfl, xs, hs, q⟩ := h
  obtain ⟨its, rv, hl, hz⟩ := I.list (xs := ms xs) (.inl (.inl hs))
  obtain ⟨u, rfl, ru⟩ := r.one
  cases ru
  have hlen0 := rv.length
  rw [List.length_map] at hlen0
  have hz2 : xs.length ≤ sizeLine := by
    have := hz
    rw [List.length_map] at this
    exact this
  refine PyProof.Rows.sorted_strsAny hl.isList rv.strs (by rw [← hlen0]; exact hz2) fun out ys h1 h2 h3 => ?_
  obtain ⟨ep, he'⟩ := PyProof.Rows.sortedAll_at s.heap its out
  have hlen : (ms ys).length ≤ sizeLine := by rw [List.length_map, h2.length_eq]; exact hz2
  exact ⟨.ref _, upd H (s.heap.objs.size + 1) (.lst (ms ys)), I.laid (t' := s.toks) (fun _ _ => PyProof.Rows.sortedAll_old) (Nat.le_succ _) ⟨hlen, out.toList, ep, vals_of_strs h1, he'⟩, rfl, q ys _ h2 h3 (I.hok.fresh (Nat.le_succ _))⟩
theorem flat_ms (l : List Str) : (ms l).all flatV = true := by
  rw [List.all_map]
  exact List.all_eq_true.mpr fun _ _ => rfl
theorem in_ms (z : Str) (l : List Str) : inV (.str z) (ms l) = decide (z ∈ l) := by
  unfold inV
  rw [List.any_map]
  induction l with
  | nil => rfl
  | cons x l ih =>
    rw [List.any_cons, ih]
    show ((x == z) || _) = _
    by_cases e : x = z
    · subst e
      simp
    · have e2 : ¬ z = x := fun h => e h.symm
      simp [e, e2]
/-- z in a list or tuple of texts -/
def rInS (neg : Bool) : R2 := fun x y H Q => ∃ z p, x = .str z ∧ y = .ref p ∧ ∃ l : List Str, Sq H p (ms l) ∧ Q (.bl (if neg = true then !decide (z ∈ l) else decide (z ∈ l))) H
theorem in_S : OpR X (compareOp .In) (rInS false) := by
  intro pins s σ H x y v u Q I rx ry h
  obtain ⟨z, p, rfl, rfl, l, hq, q⟩ := h
  refine op_in_seq pins s σ H _ _ v u Q I rx ry ⟨p, ms l, rfl, hq.elim (fun h => .inl (.inl (.inl h))) (fun h => .inr (.inl (.inl h))), rfl, flat_ms l, ?_⟩
  rw [in_ms]
  exact q
theorem notIn_S : OpR X (compareOp .NotIn) (rInS true) := by
  intro pins s σ H x y v u Q I rx ry h
  obtain ⟨z, p, rfl, rfl, l, hq, q⟩ := h
  refine op_notIn_seq pins s σ H _ _ v u Q I rx ry ⟨p, ms l, rfl, hq.elim (fun h => .inl (.inl (.inl h))) (fun h => .inr (.inl (.inl h))), rfl, flat_ms l, ?_⟩
  rw [in_ms]
  exact q
/-- l.index(z): the first place -/
theorem first_at {z : Str} : ∀ {l : List Str}, z ∈ l → ∃ j, l[j]? = some z ∧ (∀ m, m < j → l[m]? ≠ some z) ∧ j = l.idxOf z
  | x :: l, h => by
    by_cases e : x = z
    · subst e
      exact ⟨0, rfl, fun m hm => absurd hm (Nat.not_lt_zero _), by simp⟩
    · have h' : z ∈ l := (List.mem_cons.mp h).resolve_left fun k => e k.symm
      obtain ⟨j, h1, h2, h3⟩ := first_at h'
      refine ⟨j + 1, by simpa using h1, fun m hm => ?_, ?_⟩
      · cases m with
        | zero => simpa using e
        | succ m => simpa using h2 m (by omega)
      · have e2 : (x == z) = false := by simpa using e
        rw [List.idxOf_cons, e2, h3]
        rfl
def rIdxT : V → List V → Hp → VK → Prop := fun x xs H Q => ∃ p z, x = .ref p ∧ xs = [.str z] ∧ ∃ l : List Str, H p = some (.tup (ms l)) ∧ z ∈ l ∧ Q (.int (l.idxOf z : Nat)) H
theorem idx_T : MtR X "tuple.index" rIdxT := by
  intro pins s σ H x xs v us Q I rx rxs h
  obtain ⟨p, z, rfl, rfl, l, hp, hm, q⟩ := h
  obtain ⟨j, h1, h2, rfl⟩ := first_at hm
  exact mt_tup_index pins s σ H _ _ v us Q I rx rxs ⟨p, l, z, _, rfl, rfl, .inl (.inl hp), h1, h2, q⟩
def rIdxL : V → List V → Hp → VK → Prop := fun x xs H Q => ∃ p z, x = .ref p ∧ xs = [.str z] ∧ ∃ l : List Str, H p = some (.lst (ms l)) ∧ z ∈ l ∧ Q (.int (l.idxOf z : Nat)) H
theorem idx_L : MtR X "list.index" rIdxL := by
  intro pins s σ H x xs v us Q I rx rxs h
  obtain ⟨p, z, rfl, rfl, l, hp, hm, q⟩ := h
  obtain ⟨j, h1, h2, rfl⟩ := first_at hm
  refine mt_index pins s σ H _ _ v us Q I rx rxs ⟨p, ms l, .str z, _, .str z, rfl, rfl, .inl (.inl hp), rfl, flat_ms l, by rw [List.getElem?_map, h1]; rfl, by show (z == z) = true; simp, fun m y hm hy => ?_, q⟩
  rw [List.getElem?_map] at hy
  cases e : l[m]? with
  | none => rw [e] at hy; cases hy
  | some w =>
    rw [e] at hy
    have ey : y = .str w := (Option.some.inj hy).symm
    subst ey
    show (w == z) = false
    have : w ≠ z := fun k => h2 m hm (by rw [e, k])
    simpa using this
end
/-! ### sorted lists of texts, in plain words -/
def sle (a b : Str) : Prop := a.cps.toList ≤ b.cps.toList
theorem sle_trans {a b c : Str} (h1 : sle a b) (h2 : sle b c) : sle a c := List.le_trans h1 h2
theorem sle_anti {a b : Str} (h1 : sle a b) (h2 : sle b a) : a = b := by
  have e := List.le_antisymm h1 h2
  cases a with
  | mk x =>
    cases b with
    | mk y =>
      have e2 : x = y := Array.toList_inj.mp e
      rw [e2]
theorem sle_of {a b : Str} (h : (!ltCps b.cps.toList a.cps.toList) = true) : sle a b := by
  rw [ltCps_eq] at h
  have h2 : ¬ (b.cps.toList < a.cps.toList) := by simpa using h
  exact List.not_lt.mp h2
theorem rising_pw : ∀ {l : List Str} {p : Str}, risingS p l = true → (p :: l).Pairwise sle
  | [], p, _ => by simp
  | x :: l, p, h => by
    obtain ⟨h1, h2⟩ := Bool.and_eq_true_iff.mp h
    have ih := rising_pw h2
    have hpx := sle_of h1
    refine List.Pairwise.cons (fun y hy => ?_) ih
    rcases List.mem_cons.mp hy with rfl | hy
    · exact hpx
    · exact sle_trans hpx ((List.pairwise_cons.mp ih).1 y hy)
theorem sorted_pw {l : List Str} (h : sortedS l = true) : l.Pairwise sle := by
  cases l with
  | nil => exact .nil
  | cons x l => exact rising_pw h
theorem pw_uniq : ∀ {l l' : List Str}, l.Pairwise sle → l'.Pairwise sle → l.Perm l' → l = l'
  | [], l', _, _, h => (List.nil_perm.mp h).symm
  | x :: l, [], _, _, h => absurd h (by simp)
  | x :: l, y :: l', h1, h2, h => by
    have e : x = y := by
      have hx : x ∈ y :: l' := h.mem_iff.mp List.mem_cons_self
      have hy : y ∈ x :: l := h.mem_iff.mpr List.mem_cons_self
      rcases List.mem_cons.mp hx with e | hx
      · exact e
      · rcases List.mem_cons.mp hy with e | hy
        · exact e.symm
        · exact sle_anti ((List.pairwise_cons.mp h1).1 y hy) ((List.pairwise_cons.mp h2).1 x hx)
    subst e
    rw [pw_uniq (List.pairwise_cons.mp h1).2 (List.pairwise_cons.mp h2).2 ((List.perm_cons x).mp h)]
/-- sorted, without doubles, with the same members: the same list -/
theorem sorted_uniq {l l' : List Str} (h1 : sortedS l = true) (h2 : sortedS l' = true) (n1 : l.Nodup) (n2 : l'.Nodup) (hm : ∀ z, z ∈ l ↔ z ∈ l') : l = l' :=
  pw_uniq (sorted_pw h1) (sorted_pw h2) ((List.perm_ext_iff_of_nodup n1 n2).mpr hm)
end Fx
namespace Fx
open PySem PySem.Spec PyProof.Rows L2
section
variable {X : Cx}
/-- t[i], len(t), z in t of a tuple whose object is known -/
def rIxF : R2 := fun x y H Q => ∃ p i, x = .ref p ∧ y = .int i ∧ ∃ xs, FT H p xs ∧ ∃ v, atI xs i = some v ∧ Q v H
theorem ix_F : IxR X rIxF := IxR.imp ix_tup fun x y H Q ⟨p, i, e1, e2, xs, h, v, a, q⟩ => ⟨p, xs, i, v, e1, e2, h.sq, a, q⟩
def rLenF : List V → Hp → VK → Prop := fun xs H Q => ∃ p, xs = [.ref p] ∧ ∃ ys, FT H p ys ∧ Q (.int ys.length) H
theorem len_F : CallR X (.builtin "len") rLenF := CallR.imp call_len_seq fun xs H Q ⟨p, e, ys, h, q⟩ => ⟨p, ys, e, .inr h.sq, q⟩
def rInF (neg : Bool) : R2 := fun x y H Q => ∃ z p, x = .str z ∧ y = .ref p ∧ ∃ l : List Str, FT H p (ms l) ∧ Q (.bl (if neg = true then !decide (z ∈ l) else decide (z ∈ l))) H
theorem in_F : OpR X (compareOp .In) (rInF false) := by
  intro pins s σ H x y v u Q I rx ry h
  obtain ⟨z, p, rfl, rfl, l, hq, q⟩ := h
  refine op_in_seq pins s σ H _ _ v u Q I rx ry ⟨p, ms l, rfl, .inr hq.sq, rfl, flat_ms l, ?_⟩
  rw [in_ms]
  exact q
theorem notIn_F : OpR X (compareOp .NotIn) (rInF true) := by
  intro pins s σ H x y v u Q I rx ry h
  obtain ⟨z, p, rfl, rfl, l, hq, q⟩ := h
  refine op_notIn_seq pins s σ H _ _ v u Q I rx ry ⟨p, ms l, rfl, .inr hq.sq, rfl, flat_ms l, ?_⟩
  rw [in_ms]
  exact q
def rIdxF : V → List V → Hp → VK → Prop := fun x xs H Q => ∃ p z, x = .ref p ∧ xs = [.str z] ∧ ∃ l : List Str, FT H p (ms l) ∧ z ∈ l ∧ Q (.int (l.idxOf z : Nat)) H
theorem idx_F : MtR X "tuple.index" rIdxF := by
  intro pins s σ H x xs v us Q I rx rxs h
  obtain ⟨p, z, rfl, rfl, l, hp, hm, q⟩ := h
  obtain ⟨j, h1, h2, rfl⟩ := first_at hm
  exact mt_tup_index pins s σ H _ _ v us Q I rx rxs ⟨p, l, z, _, rfl, rfl, hp.sq, h1, h2, q⟩
/-- t.m(e, ..) -/
def tBMF (r : V → List V → Hp → VK → Prop) (to : TE) (t : TA) : TE := fun σ H Q => to σ H fun x H1 => ∃ p, x = .ref p ∧ (∃ xs, FT H1 p xs) ∧ t σ H1 fun vs H2 => r x vs H2 Q
variable {o e : Expr} {es : List Expr} {to : TE} {t : TA} {name : Str} {apos cpos : Pos} {id : String} {r : V → List V → Hp → VK → Prop}
theorem pe_bmF (slot : Slot "tuple" name id) (hty : typeOf (.builtin id) = pure (.type "method_descriptor")) (hm : MtR X id r) (ho : PE X o to) (ha : PA X (e :: es) t)
    (hbase : attributeBase o name X.env (eval o X.env) = eval o X.env := by rfl)
    (hfew : ((backTo cpos (starEach (e :: es) X.env)).all (fun x => !x.1) && (backToKw cpos (keywordEach [] X.env)).all (fun x => x.1.isSome)
      && decide ((e :: es).length + ([] : List Keyword).length + (if ([] : List Keyword).isEmpty then 0 else 1) < 30)) = true := by rfl)
    (hline : (apos.endLine == cpos.line) = true := by rfl) (hs : starEach (e :: es) X.env = (false, eval e X.env) :: starEach es X.env := by rfl) (hplain : (backTo cpos (starEach es X.env)).any (·.1) = false := by rfl) :
    PE X (.Call (.Attribute o name apos) (e :: es) [] cpos) (tBMF r to t) := by
  refine ⟨fun pins s σ H Q I h => ?_⟩
  refine wpAny_Call_method_late hbase hfew hline rfl (thn (ho.run pins s σ H _ I h) fun v s1 ⟨x, H1, I1, r1, p, ex, ⟨xs, ob, hp, hd⟩, q1⟩ => ?_)
  subst ex
  obtain rfl : v = Value.ref p := r1
  have hob := (I1.hok p _ hp).1
  obtain ⟨_, its, _, o2, ho2, hc2, _⟩ := (I1.hok p _ hp).2
  have eo : o2 = ob := by
    rw [hob] at ho2
    exact (Option.some.inj ho2).symm
  subst eo
  refine ⟨"tuple", id, PySem.F.plainAttrs_tuple, slot, hty, ⟨o2, hob, hc2⟩, fun a e => ?_, ?_⟩
  · cases e
    exact ⟨o2, hob, hd⟩
  have hA := ha.run cpos pins s1 σ H1 _ I1 q1
  rw [hs] at hA ⊢
  refine Calls.callWith_builtin (by show (false || (backTo cpos (starEach es X.env)).any (·.1)) = false; rw [hplain] <;> rfl) (Calls.evalArgs_plain ?_)
  exact thn hA fun us s2 ⟨vs, H2, I2, r2, q2⟩ => hm pins s2 σ H2 (.ref p) vs (.ref p) us Q I2 rfl r2 q2
/-- t == u -/
def rEqF : R2 := fun x y H Q => ∃ p q, x = .ref p ∧ y = .ref q ∧ ∃ xs ys, FT H p xs ∧ FT H q ys ∧ xs.all isF = true ∧ ys.all isF = true ∧ Q (.bl (decide (xs = ys))) H
theorem eq_FF (hu : X.A.units + 64 < cLine) : OpR X (compareOp .Eq) rEqF := by
  intro pins s σ H x y v u Q I rx ry h
  obtain ⟨p, q, rfl, rfl, xs, ys, hp, hq, fx, fy, k⟩ := h
  refine op_eqD hu pins s σ H _ _ v u Q I rx ry ⟨.tuple (xs.map datV), .tuple (ys.map datV), .tup hp.sq (dpAll_dat fx), .tup hq.sq (dpAll_dat fy), shaped_flatT fx, shaped_flatT fy, ?_⟩
  rw [PyData.eqv, eqvAll_dat fx fy]
  exact k
end
theorem ms_inj {a b : List Str} : ms a = ms b ↔ a = b := by
  constructor
  · intro h
    induction a generalizing b with
    | nil => cases b with
      | nil => rfl
      | cons y b => cases h
    | cons x a ih => cases b with
      | nil => cases h
      | cons y b =>
        simp only [ms, List.map_cons, List.cons.injEq, V.str.injEq] at h
        rw [h.1, ih h.2]
  · intro h
    rw [h]
end Fx
namespace Fx
open PySem PySem.Spec PyProof.Rows L2
/-- e.f with the written part named: inside a comprehension the reading must not lean on its context -/
theorem pe_fldK {X : Cx} {K : PySem.W.Frag} {e : Expr} {f : Str} {ta : TE} {pos : Pos} (hK : X.K = K) (he : PE X e ta) (hb : attributeBase e f X.env (eval e X.env) = eval e X.env) : PE X (.Attribute e f pos) (tFld K ta f) := by
  subst hK
  exact pe_fld he hb
end Fx
/-! Data that repr shows: rows of little data -/
namespace Fx
open PySem PySem.Spec PyProof.Rows L2
/-- little data: depth and shown length -/
structure Sm (d : PyData) (m k : Nat) : Prop where
  sh : d.showable = true
  nd : d.hasDict = false
  dep : d.depth ≤ m
  len : d.shown.length ≤ k
  ok : PyData.strOk d.shown = true
theorem Sm.mono {d : PyData} {m k m' k' : Nat} (h : Sm d m k) (hm : m ≤ m') (hk : k ≤ k') : Sm d m' k' := ⟨h.sh, h.nd, Nat.le_trans h.dep hm, Nat.le_trans h.len hk, h.ok⟩
theorem ok_app {a b : Str} (ha : PyData.strOk a = true) (hb : PyData.strOk b = true) : PyData.strOk (a ++ b) = true := by
  unfold PyData.strOk at *
  show (a.cps ++ b.cps).all _ = true
  rw [Array.all_append, ha, hb]
  rfl
theorem textFrom_ok : ∀ (ts : List Str) (n : Nat) (h : Str), (∀ t ∈ ts, PyData.strOk t = true) → PyData.strOk h = true → PyData.strOk (textFrom n h ts) = true
  | [], _, h, _, hh => hh
  | t :: ts, n, h, ht, hh => by
    have h1 := ht t List.mem_cons_self
    have c : PyData.strOk ", " = true := by decide +kernel
    unfold textFrom
    refine textFrom_ok ts _ _ (fun x hx => ht x (List.mem_cons_of_mem _ hx)) ?_
    first
    | (split
       · exact ok_app (ok_app hh c) h1
       · exact ok_app hh h1)
    | exact ok_app (ok_app hh c) h1
theorem listText_ok {ts : List Str} (ht : ∀ t ∈ ts, PyData.strOk t = true) : PyData.strOk (listText ts) = true := ok_app (textFrom_ok ts 0 "[" ht (by decide +kernel)) (by decide +kernel)
theorem sum_le {ts : List Str} {k : Nat} (h : ∀ t ∈ ts, t.length ≤ k) : (ts.map (·.length)).sum ≤ ts.length * k := by
  induction ts with
  | nil => simp
  | cons t ts ih =>
    rw [List.map_cons, List.sum_cons, List.length_cons, Nat.add_mul]
    have := ih fun x hx => h x (List.mem_cons_of_mem _ hx)
    have := h t List.mem_cons_self
    omega
theorem smAll {ds : List PyData} {m k : Nat} (h : ∀ d ∈ ds, Sm d m k) : PyData.showableAll ds = true ∧ PyData.hasDictAll ds = false ∧ PyData.depthAll ds ≤ m := by
  induction ds with
  | nil => exact ⟨by simp [PyData.showableAll], by simp [PyData.hasDictAll], by simp [PyData.depthAll]⟩
  | cons d ds ih =>
    obtain ⟨h1, h2, h3⟩ := ih fun x hx => h x (List.mem_cons_of_mem _ hx)
    have hd := h d List.mem_cons_self
    refine ⟨by simp only [PyData.showableAll, hd.sh, h1, Bool.and_self], by simp only [PyData.hasDictAll, hd.nd, h2, Bool.or_self], ?_⟩
    simp only [PyData.depthAll]
    exact Nat.max_le.mpr ⟨hd.dep, h3⟩
theorem sm_list {ds : List PyData} {m k : Nat} (h : ∀ d ∈ ds, Sm d m k) : Sm (.list ds) (m + 1) (ds.length * (k + 2) + 3) := by
  obtain ⟨h1, h2, h3⟩ := smAll h
  have hall : ∀ t ∈ PyData.shownAll ds, t.length ≤ k ∧ PyData.strOk t = true := by
    rw [shownAll_eq_map]
    intro t ht
    obtain ⟨d, hd, rfl⟩ := List.mem_map.mp ht
    exact ⟨(h d hd).len, (h d hd).ok⟩
  refine ⟨by simp only [PyData.showable, h1], by simp only [PyData.hasDict, h2], by simp only [PyData.depth]; omega, ?_, ?_⟩
  · simp only [PyData.shown]
    have a := listText_len_le (PyData.shownAll ds)
    have b := sum_le fun t ht => (hall t ht).1
    have c := PyData.shownAll_length ds
    rw [c] at a b
    have e : ds.length * (k + 2) = ds.length * k + ds.length * 2 := Nat.mul_add ..
    omega
  · simp only [PyData.shown]
    exact listText_ok fun t ht => (hall t ht).2
theorem join_ok : ∀ {ts : List Str}, (∀ t ∈ ts, PyData.strOk t = true) → PyData.strOk (Str.join ", " ts) = true
  | [], _ => by decide +kernel
  | [t], h => h t List.mem_cons_self
  | t :: u :: ts, h => ok_app (ok_app (h t List.mem_cons_self) (by decide +kernel)) (join_ok fun x hx => h x (List.mem_cons_of_mem _ hx))
theorem sm_tuple {ds : List PyData} {m k : Nat} (h : ∀ d ∈ ds, Sm d m k) : Sm (.tuple ds) (m + 1) (ds.length * (k + 2) + 3) := by
  obtain ⟨h1, h2, h3⟩ := smAll h
  have hall : ∀ t ∈ PyData.shownAll ds, t.length ≤ k ∧ PyData.strOk t = true := by
    rw [shownAll_eq_map]
    intro t ht
    obtain ⟨d, hd, rfl⟩ := List.mem_map.mp ht
    exact ⟨(h d hd).len, (h d hd).ok⟩
  refine ⟨by simp only [PyData.showable, h1], by simp only [PyData.hasDict, h2], by simp only [PyData.depth]; omega, ?_, ?_⟩
  · simp only [PyData.shown]
    have a := tupleText_len_le (PyData.shownAll ds)
    have b := sum_le fun t ht => (hall t ht).1
    have c := PyData.shownAll_length ds
    rw [c] at a b
    have e : ds.length * (k + 2) = ds.length * k + ds.length * 2 := Nat.mul_add ..
    omega
  · simp only [PyData.shown]
    unfold tupleText
    have j := join_ok fun t ht => (hall t ht).2
    have o : PyData.strOk "(" = true := by decide +kernel
    have c1 : PyData.strOk ",)" = true := by decide +kernel
    have c2 : PyData.strOk ")" = true := by decide +kernel
    split
    · exact ok_app (ok_app o j) c1
    · exact ok_app (ok_app o j) c2
theorem Sm.shw {K : PySem.W.Frag} {H : Hp} {v : V} {d : PyData} {m k : Nat} (h : Sm d m k) (hd : Dp K H v d) (hm : m ≤ 50) (hk : k ≤ 1000000) : Shw K H v d := ⟨hd, h.sh, h.nd, Nat.le_trans h.dep hm, Nat.le_trans h.len (Nat.le_trans hk (by decide)), h.ok⟩
theorem dpAll_app {K : PySem.W.Frag} {H : Hp} : ∀ {xs : List V} {ds : List PyData} {ys : List V} {es : List PyData}, DpAll K H xs ds → DpAll K H ys es → DpAll K H (xs ++ ys) (ds ++ es)
  | _, _, _, _, .nil, h => h
  | _, _, _, _, .cons h r, h2 => .cons h (dpAll_app r h2)
theorem dpAll_ms {K : PySem.W.Frag} {H : Hp} : ∀ l : List Str, DpAll K H (ms l) (l.map .str)
  | [] => .nil
  | z :: l => .cons (.str z) (dpAll_ms l)
theorem dpAll_ints {K : PySem.W.Frag} {H : Hp} : ∀ l : List Int, DpAll K H (l.map V.int) (l.map .int)
  | [] => .nil
  | z :: l => .cons (.int z) (dpAll_ints l)
theorem ofString_ok (s : String) : PyData.strOk (Str.ofString s) = true := by
  unfold PyData.strOk
  rw [PySem.Str.ofString_eq_toList, ← Array.all_toList, List.all_eq_true]
  intro x hx
  have hx2 : x ∈ s.toList.map Char.toNat := by simpa using hx
  obtain ⟨c, _, rfl⟩ := List.mem_map.mp hx2
  have h := c.valid
  unfold UInt32.isValidChar Nat.isValidChar at h
  have e : c.toNat = c.val.toNat := rfl
  rw [e]
  exact decide_eq_true (by omega)
theorem sm_int {i : Int} (h1 : -999999999999 ≤ i) (h2 : i ≤ 999999999999) : Sm (.int i) 0 13 := by
  refine ⟨?_, by simp [PyData.hasDict], by simp [PyData.depth], PyData.shown_int_le2 h1 h2, ?_⟩
  · simp only [PyData.showable]
    exact decide_eq_true (Nat.lt_trans (PySem.Flt.log2_lt_of (k := 64) (by decide) (show i.natAbs < 2 ^ 64 by omega)) (by decide))
  · simp only [PyData.shown]
    exact ofString_ok _
theorem sm_non : Sm .none 0 4 := ⟨by decide, by decide, by decide, by decide, by decide +kernel⟩
theorem sm_bl (b : Bool) : Sm (.bool b) 0 5 := by cases b <;> exact ⟨by decide, by decide, by decide, by decide, by decide +kernel⟩
theorem repr_char : ∀ c < 256, ∀ q ∈ [34, 39], (PySem.Builtin.Str.reprChar q c).all (· < 0x110000) = true := by decide +kernel
theorem sm_str {z : Str} (h : ∀ c ∈ z.cps.toList, c < 256) : Sm (.str z) 0 (10 * z.length + 2) := by
  refine ⟨by simp [PyData.showable], by simp [PyData.hasDict], by simp [PyData.depth], by simp only [PyData.shown]; exact StrLaws.reprText_len z fun c hc => Nat.lt_trans (h c hc) (by decide), ?_⟩
  simp only [PyData.shown]
  have hq : reprQuote z ∈ [34, 39] := by
    unfold reprQuote
    split <;> simp
  have hq2 : decide (reprQuote z < 0x110000) = true := by
    rcases (by simpa using hq : reprQuote z = 34 ∨ reprQuote z = 39) with e | e <;> rw [e] <;> rfl
  have key : ∀ (l : List Nat) (acc : Array Nat), (∀ c ∈ l, c < 256) → acc.all (· < 0x110000) = true → (l.foldl (fun out c => out ++ (PySem.Builtin.Str.reprChar (reprQuote z) c).toArray) acc).all (· < 0x110000) = true := by
    intro l
    induction l with
    | nil => intro acc _ h; exact h
    | cons c l ih =>
      intro acc hl ha
      rw [List.foldl_cons]
      refine ih _ (fun x hx => hl x (List.mem_cons_of_mem _ hx)) ?_
      rw [Array.all_append, ha, ← Array.all_toList]
      exact repr_char c (hl c List.mem_cons_self) _ hq
  unfold PyData.strOk reprText
  show ((z.cps.foldl (fun out c => out ++ (PySem.Builtin.Str.reprChar (reprQuote z) c).toArray) #[reprQuote z]).push (reprQuote z)).all _ = true
  rw [Array.all_push, ← Array.foldl_toList, key z.cps.toList _ h (by simpa using hq2), hq2]
  rfl
end Fx
/-! Sets of texts: {e for x in xs}, sorted of them -/
namespace Fx
open PySem PySem.Spec PyProof.Rows L2
theorem is_self (z : Str) (tk : Tok) : keyIs (.inr z) (.str z tk) = true := by
  show (z == z) = true
  simp
def zOf (e : Int × Value) : Str := match e.2 with
  | .str z _ => z
  | _ => ""
def TxtE (w : World) (e : Int × Value) : Prop := ∃ z tk, e.2 = Value.str z tk ∧ e.1 = keyH w (.inr z)
/-- the set of texts at a; L its members, each once -/
def SetS (w : World) (h : Heap) (a : Addr) (L : List Str) : Prop := ∃ (o : Obj) (es : Array (Int × Value)) (ep : Nat) (t : SetTable), h.get? a = some o ∧ o.ExactSet ∧ o.data = .set es ep t ∧ (∀ e ∈ es.toList, TxtE w e) ∧
  (es.toList.map zOf).Perm L ∧ L.Nodup ∧ es.size < scanBound ∧ t.fits es.size = true ∧ Ris t.place.toList ∧ (w.params.followText "set-order" = true ∨ t.led = true)
section
variable {P : Program} {w : World} {A : Around} {E : Value → Shared → Prop} {s : Shared} {h h' : Heap} {a : Addr} {L : List Str}
theorem SetS.keep (R : SetS w h a L) (k : ∀ o, h.get? a = some o → h'.get? a = some o) : SetS w h' a L := let ⟨o, es, ep, t, ho, r⟩ := R; ⟨o, es, ep, t, k o ho, r⟩
theorem mem_z {l : List (Int × Value)} (g : ∀ e ∈ l, TxtE w e) (z : Str) : z ∈ l.map zOf ↔ ∃ e ∈ l, (mixKind P w).is (.inr z) e.2 = true := by
  constructor
  · intro hz
    obtain ⟨e, he, ez⟩ := List.mem_map.mp hz
    obtain ⟨y, tk, e1, e2⟩ := g e he
    have ey : zOf e = y := by unfold zOf; rw [e1]
    refine ⟨e, he, ?_⟩
    rw [e1, ← ez, ey]
    exact is_self y tk
  · rintro ⟨e, he, hi⟩
    obtain ⟨y, tk, e1, e2⟩ := g e he
    refine List.mem_map.mpr ⟨e, he, ?_⟩
    rcases keyIs_shape (k := .inr z) (v := e.2) hi with ⟨i, t, k1, k2⟩ | ⟨x, t, k1, k2⟩
    · cases k1
    · cases k1
      unfold zOf
      rw [k2]
theorem elems_z {l : List (Int × Value)} (g : ∀ e ∈ l, TxtE w e) : ElemsOf (mixKind P w) l := fun e he => by
  obtain ⟨z, tk, h1, h2⟩ := g e he
  exact ⟨⟨.inr z, by rw [h1]; exact is_self z tk, h2⟩, by rw [h1] <;> rfl⟩
theorem putS_at {o : Obj} {es es' : Array (Int × Value)} {ep : Nat} {t t' : SetTable} (ho : h.get? a = some o) (hd : o.data = .set es ep t) : (h.update a (Obj.putSet es' t')).get? a = some { o with data := .set es' (ep + 1) t' } := by
  have q := Heap.get?_update_self (Obj.putSet es' t') ho (by rw [putSet_of es' t' hd] <;> rfl)
  rwa [putSet_of es' t' hd] at q
theorem addS_tail {g : Bool → Sem Unit} {o : Obj} {es es1 : Array (Int × Value)} {ep : Nat} {t t2 : SetTable} {L1 : List Str} {wasDummy : Bool} {R : Option Bool → Shared → Prop}
    (hg : ∀ (b : Bool) (s₁ : Shared) (Q' : Unit → Shared → Prop), Q' () s₁ → wpAny (model P w) A (g b) Q' E s₁) (ho : s.heap.get? a = some o) (hex : o.ExactSet) (hd : o.data = .set es ep t) (g1 : ∀ e ∈ es1.toList, TxtE w e)
    (p1 : (es1.toList.map zOf).Perm L1) (nd1 : L1.Nodup) (hb1 : es1.size < scanBound) (hf2 : t2.fits es1.size = true) (hr : Ris t2.place.toList) (hl : w.params.followText "set-order" = true ∨ t2.led = true)
    (hR : ∀ h', Heap.SameBut a s.heap h' → SetS w h' a L1 → R (some true) { s with heap := h' }) :
    wpAny (model P w) A (do
      storeSet a es1 t2
      if (!wasDummy && t2.tooFull) = true then do g (relayAll t2 es1 (SetTable.grown es1.size)).2.2; storeSet a (relayAll t2 es1 (SetTable.grown es1.size)).1 (relayAll t2 es1 (SetTable.grown es1.size)).2.1; pure (some true)
      else pure (some true)) R E s := by
  have ho1 := putS_at (es' := es1) (t' := t2) ho hd
  have b1 := Heap.SameBut.update s.heap a (Obj.putSet es1 t2)
  refine wpAny_bind (wpAny_storeSet_of ho hd ?_ (fits_of_scanBound hb1))
  split
  · have pm := relayAll_perm t2 es1 (SetTable.grown es1.size)
    have hf3 := relayAll_fits t2 es1 (SetTable.grown es1.size)
    have hr3 := relayAll_ris t2 es1 (SetTable.grown es1.size)
    have hl3 := relayAll_led t2 es1 (SetTable.grown es1.size)
    rcases hZ : relayAll t2 es1 (SetTable.grown es1.size) with ⟨es2, t3, gave⟩
    rw [hZ] at pm hf3 hr3 hl3
    dsimp only at pm hf3 hr3 hl3 ⊢
    have hsz : es2.size = es1.size := by rw [← Array.length_toList, pm.length_eq, Array.length_toList]
    have hb2 : es2.size < scanBound := hsz ▸ hb1
    refine wpAny_bind (hg _ _ _ (wpAny_bind (wpAny_storeSet_of ho1 rfl ?_ (fits_of_scanBound hb2))))
    refine wpAny_pure (hR _ (b1.trans (Heap.SameBut.update _ a _)) ⟨_, es2, _, t3, putS_at (es' := es2) (t' := t3) ho1 rfl, hex, rfl, fun e he => g1 e (pm.mem_iff.mp he), (pm.map zOf).trans p1, nd1, hb2, hf3, hr3, hl.imp id fun z => ?_⟩)
    rw [hl3]
    exact z
  · exact wpAny_pure (hR _ b1 ⟨_, es1, _, t2, ho1, hex, rfl, g1, p1, nd1, hb1, hf2, hr, hl⟩)
/-- with one more -/
def plus (L : List Str) (z : Str) : List Str := if z ∈ L then L else z :: L
theorem addS_hashed {z : Str} {tk : Tok} {Q : Bool → Shared → Prop} (R : SetS w s.heap a L) (room : L.length + 1 < scanBound)
    (hQ : ∀ h' b, Heap.SameBut a s.heap h' → SetS w h' a (plus L z) → Q b { s with heap := h' }) : wpAny (model P w) A (setAddHashed a (.str z tk) ((mixKind P w).hash (.inr z))) Q E s := by
  obtain ⟨o, es, ep, t, ho, hex, hd, g, pL, nd, hb, hf, hr, hl⟩ := R
  have hkey : (mixKind P w).is (.inr z) (.str z tk) = true := is_self z tk
  have hsc : (Value.str z tk).scannable = true := rfl
  have hel : ElemsOf (mixKind P w) es.toList := elems_z g
  have hn : es.size = L.length := by rw [← Array.length_toList, ← List.length_map (f := zOf), pL.length_eq]
  unfold setAddHashed setAddHashedIn
  refine wpAny_holding (wpAny_bind (wpAny_setState_of ho hd hf ?_))
  dsimp only
  rw [byScan_of hsc hb hel, if_pos rfl]
  unfold setAddByScan
  refine wpAny_bind (wpAny_bind (wpAny_rule (wpAny_bind (wpAny_setScan_of hkey ho hd hf hel ?_))))
  cases hfi : List.findIdx? (fun e => (mixKind P w).is (.inr z) e.2) es.toList with
  | some j =>
    dsimp only
    obtain ⟨hj, pj, _⟩ := List.findIdx?_eq_some_iff_getElem.mp hfi
    have hz : z ∈ L := pL.mem_iff.mp ((mem_z (P := P) g z).mpr ⟨es.toList[j], List.getElem_mem hj, pj⟩)
    refine wpAny_pure (wpAny_pure (hQ s.heap _ (Heap.SameBut.refl a s.heap) ?_))
    unfold plus
    rw [if_pos hz]
    exact ⟨o, es, ep, t, ho, hex, hd, g, pL, nd, hb, hf, hr, hl⟩
  | none =>
    dsimp only
    have hz : z ∉ L := fun k => by
      obtain ⟨e, he, q⟩ := (mem_z (P := P) g z).mp (pL.mem_iff.mpr k)
      exact Bool.noConfusion ((List.findIdx?_eq_none_iff.mp hfi e he).symm.trans q)
    have hgw : ∀ (b : Bool) {s₁ : Shared} {Q' : Unit → Shared → Prop}, Q' () s₁ → wpAny (model P w) A (match b with | true => rule "set.scan.the-table-gave-way" | false => pure ()) Q' E s₁ := by
      intro b s₁ Q' q
      cases b
      · exact wpAny_pure q
      · exact wpAny_rule q
    have pm := layNew_perm t es ((mixKind P w).hash (.inr z)) (.str z tk)
    have hf1 := layNew_fits t es ((mixKind P w).hash (.inr z)) (.str z tk)
    have hr1 := layNew_ris t es ((mixKind P w).hash (.inr z)) (.str z tk) hr
    have hl1 := layNew_led t es ((mixKind P w).hash (.inr z)) (.str z tk)
    rcases hZ : layNew t es ((mixKind P w).hash (.inr z)) (.str z tk) with ⟨es1, t1, wasDummy, gave⟩
    rw [hZ] at pm hf1 hr1 hl1
    dsimp only at pm hf1 hr1 hl1 ⊢
    rw [Array.toList_push] at pm
    have pc : es1.toList.Perm (((mixKind P w).hash (.inr z), Value.str z tk) :: es.toList) := pm.trans (List.perm_append_singleton _ _)
    have pk : (es1.toList.map zOf).Perm (z :: L) := (pc.map zOf).trans (pL.cons z)
    have g1 : ∀ e ∈ es1.toList, TxtE w e := by
      intro e he
      rcases List.mem_cons.mp (pc.mem_iff.mp he) with q | q
      · exact q ▸ ⟨z, tk, rfl, rfl⟩
      · exact g e q
    have nd1 : (z :: L).Nodup := List.nodup_cons.mpr ⟨hz, nd⟩
    have hb1 : es1.size < scanBound := by rw [← Array.length_toList, pc.length_eq, List.length_cons, Array.length_toList, hn]; exact room
    have hled : w.params.followText "set-order" = true ∨ t1.led = true := hl.imp id fun q => by rw [hl1]; exact q
    have fin : ∀ h' b, Heap.SameBut a s.heap h' → SetS w h' a (z :: L) → Q b { s with heap := h' } := fun h' b sb r => hQ h' b sb (by unfold plus; rw [if_neg hz]; exact r)
    refine wpAny_bind (hgw _ ?_)
    split
    · refine wpAny_bind ?_
      rw [hashByValue_scannable 8 hsc]
      refine wpAny_pure ?_
      refine addS_tail (fun b s₁ Q' q => hgw b q) ho hex hd g1 pk nd1 hb1 ?_ ?_ ?_ fun h' sb r => ?_
      · first
        | exact hf1
        | (split
           · first | exact hf1 | exact SetTable.fits_plain_off hf1
           · first | exact hf1 | exact SetTable.fits_plain_off hf1)
      · first | exact hr1 | (split <;> exact hr1)
      · first | exact hled | (split <;> exact hled)
      · dsimp only
        exact wpAny_pure (fin h' _ sb r)
    · refine wpAny_bind (wpAny_pure ?_)
      simp only [↓reduceIte]
      exact addS_tail (fun b s₁ Q' q => hgw b q) ho hex hd g1 pk nd1 hb1 hf1 hr1 hled fun h' sb r => by dsimp only; exact wpAny_pure (fin h' _ sb r)
end
/-- found.add(z) -/
theorem addS {P : Program} {w : World} {A : Around} {E : Value → Shared → Prop} {s : Shared} {a : Addr} {L : List Str} {z : Str} {tk : Tok} {Q : Value → Shared → Prop} (R : SetS w s.heap a L) (room : L.length + 1 < scanBound)
    (hQ : ∀ h', Heap.SameBut a s.heap h' → SetS w h' a (plus L z) → Q .none { s with heap := h', toks := s.toks + 1 }) : wpAny (model P w) A (call (.builtin "set.add") [.ref a, .str z tk]) Q E s := by
  have ty : s.TypeIs (.ref a) "set" := let ⟨o, _, _, _, ho, hex, _⟩ := R; ⟨o, ho, hex.1⟩
  refine wpAny_call_entry PySem.F.slot_set_add ty PySem.F.entry_set_add ?_ (PySem.F.args_set_add_2 _ _)
  unfold Builtin.«set.add» Builtin.Frozenset.oneOther
  simp only [List.isEmpty_nil, bind_assoc]
  unfold Builtin.Frozenset.addrOf setAdd
  refine wpAny_bind (wpAny_pure ?_)
  try dsimp only
  refine wpAny_bind (wpAny_pure ?_)
  try dsimp only
  refine wpAny_bind (wpAny_holding (wpAny_bind ((mixKind P w).pyHash (k := .inr z) (is_self z tk) ?_)))
  exact addS_hashed (s := { s with toks := s.toks + 1 }) R room fun h' b sb r => wpAny_pure ⟨_, rfl, hQ h' sb r⟩
theorem freshS {h : Heap} (w : World) : SetS w (h.push { cls := .type "set", dict := none, data := .set #[] 0 (.fresh 0 0 (!w.params.followText "set-order")) }) h.objs.size [] := by
  refine ⟨_, #[], 0, _, Heap.get?_push_size _ rfl, ⟨rfl, rfl, rfl⟩, rfl, fun e he => by simp at he, .refl _, .nil, by decide, by rfl, List.Pairwise.nil, ?_⟩
  show w.params.followText "set-order" = true ∨ (!w.params.followText "set-order") = true
  cases w.params.followText "set-order" <;> simp
/-- the set of texts at a, as a tracked thing -/
def SetSO (w : World) (a : Addr) (L : List Str) : HO := .ext fun h => SetS w h a L
theorem setSO_ok {w : World} {P : Program} {H : Hp} {h : Heap} {a : Addr} {L : List Str} (R : SetS w h a L) : ObjOk P w H h a (SetSO w a L) := ⟨R, let ⟨o, _, _, _, ho, _⟩ := R; ⟨o, ho⟩, fun _ _ p k => SetS.keep p k⟩
theorem setSO_at {X : Cx} {pins : List (Addr × Obj)} {σ : L2.St} {H : Hp} {s : Shared} {a : Addr} {L : List Str} (I : Inv X pins σ H s) (ha : H a = some (SetSO X.w a L)) : SetS X.w s.heap a L := (I.hok a _ ha).1
theorem addSO {X : Cx} {pins : List (Addr × Obj)} {σ : L2.St} {H : Hp} {s : Shared} {E : Value → Shared → Prop} {D : Addr} {L : List Str} {z : Str} {tk : Tok} {Q : Value → Shared → Prop} (I : Inv X pins σ H s) (hD : H D = some (SetSO X.w D L)) (room : L.length + 1 < scanBound)
    (h : ∀ s', Inv X pins σ (upd H D (SetSO X.w D (plus L z))) s' → Q .none s') : wpAny (model X.prog X.w) X.A (call (.builtin "set.add") [.ref D, .str z tk]) Q E s := by
  refine addS (setSO_at I hD) room fun h' sb new => h _ (I.write (e := D) (t' := s.toks + 1) (by rw [hD]; trivial) (.inl rfl) (fun b u hb hu => (sb.2 b hb).trans hu) ?_ (setSO_ok new))
  obtain ⟨o, _, _, _, ho, _⟩ := new
  exact ⟨o, ho⟩
/-- {elt for target in iter if ..}, texts: D the new set -/
def tScS (w : World) (wi : TI) (g : TG) (tt : TT) (te : TE) (vs : List Nat) : TE := fun σ H Q => wi σ H fun J H1 => ∀ D, H1 D = none → ∃ W : Nat → Nat → Hp → Prop, (∃ m, W 0 m (upd H1 D (SetSO w D []))) ∧ ∀ i m H, W i m H →
  (J.stop i H ∧ Q (.ref D) H) ∨ (J.go i H ∧ ∃ Nx : Hp → Prop, (∀ H', Nx H' → ∃ m', m' < m ∧ W (i + 1) m' H') ∧ ∀ x H', J.yld i H x H' → g x (wipe σ vs) H' fun σ2 H2 => wipe σ2 vs = wipe σ vs ∧ tt σ2 H2 fun b H3 =>
    if b = true then te σ2 H3 fun y H4 => ∃ (z : Str) (L : List Str), y = .str z ∧ H4 D = some (SetSO w D L) ∧ L.length + 1 < scanBound ∧ Nx (upd H4 D (SetSO w D (plus L z))) else Nx H3)
section
variable {X : Cx} {elt tg iter : Expr} {ifs : List Expr} {scope : Scope} {own : List (PySem.Str × Nat)} {pos : Pos} {wi : TI} {g : TG} {tt : TT} {te : TE}
theorem coreS {pins : List (Addr × Obj)} {s : Shared} {σ : L2.St} {H : Hp} {Q : VK} {pos' : Pos} {use : Option (Value → Sem Unit)} {Qf : Value → Shared → Prop} (hc : X.calm = true) (hN : X.N.Nodup) (I : Inv X pins σ H s) (hi : PI X tg iter wi) (ok : BlkOk X.N X.env.scope scope own)
    (hg : ∀ (s : Shared) (H : Hp) (C : Addr) (cl : List (PySem.Str × Addr)) (fp : List Addr), PG (X.blk s H scope (compEnvC scope cl C X.env) fp) tg g)
    (ht : ∀ (s : Shared) (H : Hp) (C : Addr) (cl : List (PySem.Str × Addr)) (fp : List Addr), PTs (X.blk s H scope (compEnvC scope cl C X.env) fp) ifs tt)
    (he : ∀ (s : Shared) (H : Hp) (C : Addr) (cl : List (PySem.Str × Addr)) (fp : List Addr), PE (X.blk s H scope (compEnvC scope cl C X.env) fp) elt te) (hs : ∀ x, foldedSetIterable iter X.env x = pure x) (h : tScS X.w wi g tt te (own.map (·.2)) σ H Q)
    (hRR : ∀ D C s' m H', Inv X pins σ H' s' → Q (.ref D) H' → s'.heap.Ns C m → FpOk X pins H' C → compPost (model X.prog X.w) X.A X.xe use Qf (.ref D) C (.ok .next) s') :
    wpAny (model X.prog X.w) X.A (comprehension (.SetComp elt [⟨tg, iter, ifs, 0⟩] scope pos) scope X.env pos' (newSet (.type "set")) false (eval iter X.env) use) Qf X.xe s := by
  have fr : ∀ y ∈ scope.names, y.2 = .free → ∃ c, X.env.cells.lookup y.1 = some c := fun y hy e => by
    rcases ok.free y hy e with k | k <;> exact I.ok.has _ (by first | exact .inl k | exact .inr k)
  refine wpAny_comprehension_free (use := use) rfl hs (closure_ok fr) ok.kind (fun y hy e => by rw [ok.uniq y hy, e]) (thn (hi.run pins s σ H _ I h) fun xv s1 hx => thn hx fun itv s2 h2 => ?_)
  obtain ⟨it, fp, tn, J, H2, rfl, I2, T, st2, f2, q⟩ := h2
  refine PpSet.newSet_ok (newEnv_comp ?_)
  generalize hD : s2.heap.objs.size = D
  have hDn : H2 D = none := I2.hok.fresh (Nat.le_of_eq hD)
  obtain ⟨W, ⟨m0, w0⟩, turn⟩ := q D hDn
  generalize hs3 : ({ s2 with heap := s2.heap.push { cls := .type "set", dict := none, data := .set #[] 0 (.fresh 0 0 (!X.w.params.followText "set-order")) } } : Shared) = s3
  have h3 : s3.heap = s2.heap.push { cls := .type "set", dict := none, data := .set #[] 0 (.fresh 0 0 (!X.w.params.followText "set-order")) } := hs3 ▸ rfl
  have I3 : Inv X pins σ (upd H2 D (SetSO X.w D [])) s3 := by
    subst hs3
    refine I2.laid (t' := s2.toks) (fun b o e => Heap.get?_push_of_some _ e) (Nat.le_of_eq hD) ?_
    subst hD
    exact setSO_ok (freshS X.w)
  have sz : ∀ b ∈ fp, b < s2.heap.objs.size := fun b hb => let ⟨o, e, _⟩ := T.obj _ _ st2 b hb; Heap.lt_size e
  have f3 : ∀ b ∈ fp, FpOk X pins (upd H2 D (SetSO X.w D [])) b ∧ b < s3.heap.objs.size := fun b hb => by
    have lt := sz b hb
    refine ⟨⟨?_, (f2 b hb).2⟩, by rw [h3, Heap.size_push]; exact Nat.lt_succ_of_lt lt⟩
    rw [upd_ne (by rw [← hD]; exact Nat.ne_of_lt lt)]
    exact (f2 b hb).1
  have st3 : tn 0 s3.heap := T.keep _ _ _ st2 fun b _ o e => by rw [h3]; exact Heap.get?_push_of_some _ e
  have I4 := block_start I3 ok hN f3
  let cl := cellsFrom (s3.heap.objs.size + 1) scope.names (cloFrom X.env.cells scope.names [])
  have pg := hg s3 (upd H2 D (SetSO X.w D [])) s3.heap.objs.size cl fp
  have pt := ht s3 (upd H2 D (SetSO X.w D [])) s3.heap.objs.size cl fp
  have pe := he s3 (upd H2 D (SetSO X.w D [])) s3.heap.objs.size cl fp
  show codeAny _ _ (.compStart (.SetComp elt [⟨tg, iter, ifs, 0⟩] scope pos) 0 (.ref it) (.ref D) (compEnvC scope cl s3.heap.objs.size X.env)) (compPost (model X.prog X.w) X.A X.xe use Qf (.ref D) s3.heap.objs.size) { s3 with heap := pushCells (s3.heap.push { cls := .type "dict", data := .dict #[] }) scope.names }
  have nfp : ∀ b ∈ fp, (upd H2 D (SetSO X.w D [])) b = none := fun b hb => (f3 b hb).1.1
  generalize hce : compEnvC scope cl s3.heap.objs.size X.env = ce at pg pt pe ⊢
  have I4 : Inv (X.blk s3 (upd H2 D (SetSO X.w D [])) scope ce fp) [] (wipe σ (own.map (·.2))) (upd H2 D (SetSO X.w D [])) _ := hce ▸ I4
  have cL : ce.locals = s3.heap.objs.size := by subst hce; rfl
  generalize hH3 : upd H2 D (SetSO X.w D []) = H3 at I3 I4 pg pt pe w0 nfp f3
  generalize hs4 : ({ s3 with heap := pushCells (s3.heap.push { cls := .type "dict", data := .dict #[] }) scope.names } : Shared) = s4 at I4 ⊢
  have st4 : tn 0 s4.heap := T.keep _ _ _ st3 fun b _ o e => by rw [← hs4]; exact pushCells_keeps _ _ _ _ (Heap.get?_push_of_some _ e)
  have stat : ∀ {σ' : L2.St} {H' : Hp} {s' : Shared}, Inv (X.blk s3 H3 scope ce fp) [] σ' H' s' → (∀ b ∈ fp, H' b = none) → ∀ b ∈ fp, FpOk (X.blk s3 H3 scope ce fp) [] H' b := by
    intro σ' H' s' I' hn b hb
    exact ⟨hn b hb, (I'.ok.exf b hb).1, I'.ok.exfs b hb, .inl hb, fun x c e => (I'.ok.exf b hb).2 x c e, fun p hp => absurd (show p ∈ ([] : List (Addr × Obj)) ++ [] from hp) (by simp)⟩
  have loop : codeAny (model X.prog X.w) X.A (.compLoop (.SetComp elt [⟨tg, iter, ifs, 0⟩] scope pos) 0 (.ref it) (.ref D) ce) (compPost (model X.prog X.w) X.A X.xe use Qf (.ref D) s3.heap.objs.size) s4 := by
    refine PpSet.compLoopS_any (fun n s' => ∃ i H', Inv (X.blk s3 H3 scope ce fp) [] (wipe σ (own.map (·.2))) H' s' ∧ tn i s'.heap ∧ (∀ b ∈ fp, H' b = none) ∧ W i n H') (fun n s5 hI => ?_) m0 ⟨0, H3, I4, st4, nfp, w0⟩
    obtain ⟨i, H5, I5, st5, n5, w5⟩ := hI
    rcases turn i n H5 w5 with ⟨stop, qq⟩ | ⟨go, Nx, hNx, step⟩
    · refine thnF (T.done (X.blk s3 H3 scope ce fp) rfl rfl rfl hc i [] s5 _ H5 (fun _ _ => False) I5 (stat I5 n5) st5 stop) fun r s6 ⟨hr, I6⟩ => ?_
      subst hr
      have I7 : Inv X pins σ H5 s6 := I3.call' (ch := fp) I6.os I6.base I6.hok I6.bare fun b hb => ⟨(f3 b hb).1.2.2.2.1, (f3 b hb).1.2.1, (f3 b hb).1.2.2.2.2.1, (f3 b hb).1.2.2.2.2.2⟩
      have nC : H5 s3.heap.objs.size = none := cL ▸ (show H5 ce.locals = none from I6.free)
      obtain ⟨m, hn, _⟩ := I6.loc
      have hn : s6.heap.Ns ce.locals m := hn
      exact hRR D s3.heap.objs.size s6 m H5 I7 qq (cL ▸ hn) (I3.fpOk (Nat.le_refl _) nC)
    · refine thnF (T.item (X.blk s3 H3 scope ce fp) rfl rfl rfl hc i [] s5 _ H5 (fun _ _ => False) I5 (stat I5 n5) st5 go) fun r s6 ⟨u, hr, h6⟩ => ?_
      subst hr
      refine thnF h6 fun _ s7 ⟨x, H7, I7, r7, y7, st7, n7⟩ => ?_
      refine thnF (pg.run _ s7 _ H7 x u _ (I7.pinned (stat I7 n7) (T.obj _ _ st7)) r7 (step x H7 y7)) fun _ s8 ⟨σ8, H8, I8, hw8, q8⟩ => thnF (pt.run _ s8 σ8 H8 _ I8 q8) fun b s9 ⟨H9, I9, q9⟩ => ?_
      have fin : ∀ {s' : Shared} {H' : Hp}, Inv (X.blk s3 H3 scope ce fp) ([] ++ pinsAt fp s7.heap) σ8 H' s' → Nx H' → ∃ m, m < n ∧ ∃ i H', Inv (X.blk s3 H3 scope ce fp) [] (wipe σ (own.map (·.2))) H' s' ∧ tn i s'.heap ∧ (∀ b ∈ fp, H' b = none) ∧ W i m H' := by
        intro s' H' I' nx
        obtain ⟨m', hm, w'⟩ := hNx H' nx
        have pin' : ∀ b ∈ fp, ∀ o, s7.heap.get? b = some o → s'.heap.get? b = some o ∧ H' b = none := fun b hb o e => let k := I'.pin (b, o) (List.mem_append_right _ (List.mem_append_right _ (mem_pinsAt hb e))); ⟨k.1, k.2.1⟩
        refine ⟨m', hm, i + 1, H', (I'.unpinned (pins := [])).weak (by rw [← hw8, wipe_length]) (fun j v e => ?_), T.keep _ _ _ st7 fun b hb o e => (pin' b hb o e).1, fun b hb => ?_, w'⟩
        · exact (wipe_some (hw8 ▸ e)).1
        · obtain ⟨o, e, _⟩ := T.obj _ _ st7 b hb
          exact (pin' b hb o e).2
      cases b
      · simp only [Bool.false_eq_true, if_false] at q9 ⊢
        exact fin I9 q9
      · simp only [if_true] at q9 ⊢
        refine thnF (pe.run _ s9 σ8 H9 _ I9 q9) fun v s10 ⟨yv, H10, I10, r10, z, L0, ey, hD10, hz10, nx⟩ => ?_
        subst ey
        obtain ⟨tk, rfl⟩ := r10
        exact addSO (X := X.blk s3 H3 scope ce fp) I10 hD10 hz10 fun s11 I11 => fin I11 nx
  exact PpSet.codeAny_compStart_set loop (T.self X.A 0 _ _ _ st4 loop)
theorem pe_scS (hc : X.calm = true) (hN : X.N.Nodup) (hi : PI X tg iter wi) (ok : BlkOk X.N X.env.scope scope own) (hg : ∀ (s : Shared) (H : Hp) (C : Addr) (cl : List (PySem.Str × Addr)) (fp : List Addr), PG (X.blk s H scope (compEnvC scope cl C X.env) fp) tg g)
    (ht : ∀ (s : Shared) (H : Hp) (C : Addr) (cl : List (PySem.Str × Addr)) (fp : List Addr), PTs (X.blk s H scope (compEnvC scope cl C X.env) fp) ifs tt) (he : ∀ (s : Shared) (H : Hp) (C : Addr) (cl : List (PySem.Str × Addr)) (fp : List Addr), PE (X.blk s H scope (compEnvC scope cl C X.env) fp) elt te)
    (hs : ∀ x, foldedSetIterable iter X.env x = pure x := by intro _; rfl) : PE X (.SetComp elt [⟨tg, iter, ifs, 0⟩] scope pos) (tScS X.w wi g tt te (own.map (·.2))) := by
  refine ⟨fun pins s σ H Q I h => ?_⟩
  rw [PpSet.eval_SetComp]
  refine coreS hc hN I hi ok hg ht he hs h fun D C s' m H' I' q hn ⟨f0, f1, f2, f3, f4, f5⟩ => ⟨m, hn, fun h'' sb => ⟨.ref D, H', I'.turned (t' := s'.toks) (fun b o hb e => (sb.2 b hb).trans e) f0 f1 f3 f4 f5, rfl, q⟩⟩
end
/-- over a list or a tuple that the block leaves as it is -/
theorem sc_Q {w : World} {K : PySem.W.Frag} {a : Addr} {j : Nat} {xs : List V} {g : TG} {tt : TT} {te : TE} {vs : List Nat} {σ : L2.St} {H : Hp} {Q : VK} (hv : σ[j]? = some (some (.ref a))) (hq : SqL K H a xs ∨ SqT K H a xs) (Pv : Nat → Addr → Hp → Prop)
    (hS : ∀ i D H', Pv i D H' → (SqL K H a xs → SqL K H' a xs) ∧ (SqT K H a xs → SqT K H' a xs)) (h0 : ∀ D, H D = none → Pv 0 D (upd H D (SetSO w D [])))
    (hs : ∀ i D x H', xs[i]? = some x → Pv i D H' → g x (wipe σ vs) H' fun σ2 H2 => wipe σ2 vs = wipe σ vs ∧ tt σ2 H2 fun b H3 =>
      if b = true then te σ2 H3 fun y H4 => ∃ (z : Str) (L : List Str), y = .str z ∧ H4 D = some (SetSO w D L) ∧ L.length + 1 < scanBound ∧ Pv (i + 1) D (upd H4 D (SetSO w D (plus L z))) else Pv (i + 1) D H3)
    (hd : ∀ D H', Pv xs.length D H' → Q (.ref D) H') : tScS w (iQ K (tVar j)) g tt te vs σ H Q := by
  have run : ∀ (J : It) (D : Addr), H D = none → (∀ i H', Pv i D H' → i ≤ xs.length → (i < xs.length → J.go i H' ∧ ∀ x H'', J.yld i H' x H'' → H'' = H' ∧ xs[i]? = some x) ∧ (i = xs.length → J.stop i H')) → ∃ W : Nat → Nat → Hp → Prop, (∃ m, W 0 m (upd H D (SetSO w D []))) ∧ ∀ i m H, W i m H →
      (J.stop i H ∧ Q (.ref D) H) ∨ (J.go i H ∧ ∃ Nx : Hp → Prop, (∀ H', Nx H' → ∃ m', m' < m ∧ W (i + 1) m' H') ∧ ∀ x H', J.yld i H x H' → g x (wipe σ vs) H' fun σ2 H2 => wipe σ2 vs = wipe σ vs ∧ tt σ2 H2 fun b H3 =>
        if b = true then te σ2 H3 fun y H4 => ∃ (z : Str) (L : List Str), y = .str z ∧ H4 D = some (SetSO w D L) ∧ L.length + 1 < scanBound ∧ Nx (upd H4 D (SetSO w D (plus L z))) else Nx H3) := by
    intro J D nD hJ
    refine ⟨fun i m H' => m = xs.length - i ∧ i ≤ xs.length ∧ Pv i D H', ⟨_, rfl, Nat.zero_le _, h0 D nD⟩, ?_⟩
    rintro i m H' ⟨rfl, hi, p⟩
    obtain ⟨j1, j2⟩ := hJ i H' p hi
    by_cases hlt : i < xs.length
    · obtain ⟨go, y⟩ := j1 hlt
      refine .inr ⟨go, Pv (i + 1) D, fun H' p' => ⟨xs.length - (i + 1), by omega, rfl, hlt, p'⟩, fun x H'' hy => ?_⟩
      obtain ⟨rfl, hx⟩ := y x H'' hy
      exact hs i D x _ hx p
    · obtain rfl : i = xs.length := by omega
      exact .inl ⟨j2 rfl, hd D H' p⟩
  rcases hq with hq | hq
  · refine .inl ⟨_, hv, a, rfl, ⟨_, hq⟩, fun D nD => run _ D nD fun i H' p hi => ?_⟩
    have q := (hS i D H' p).1 hq
    exact ⟨fun lt => ⟨⟨xs, xs[i], q, by simp [lt]⟩, fun x H'' y => ⟨y.1, y.2 xs q⟩⟩, fun e => ⟨xs, q, Nat.le_of_eq e.symm⟩⟩
  · refine .inr ⟨_, hv, a, rfl, ⟨_, hq⟩, fun D nD => run _ D nD fun i H' p hi => ?_⟩
    have q := (hS i D H' p).2 hq
    exact ⟨fun lt => ⟨⟨xs, xs[i], q, by simp [lt]⟩, fun x H'' y => ⟨y.1, y.2 xs q⟩⟩, fun e => ⟨xs, q, Nat.le_of_eq e.symm⟩⟩
/-- sorted(found) -/
def rSortZ (w : World) : List V → Hp → VK → Prop := fun vs H Q => ∃ a, vs = [V.ref a] ∧ ∃ L, H a = some (SetSO w a L) ∧ ∀ (ys : List Str) (p : Addr), ys.Perm L → L.Nodup → sortedS ys = true → H p = none → Q (.ref p) (upd H p (.lst (ms ys)))
theorem strs_of : ∀ (l : List Value), (∀ v ∈ l, ∃ z tk, v = Value.str z tk) → StrsAre l (l.map fun v => zOf (0, v))
  | [], _ => .nil
  | v :: l, h => by
    obtain ⟨z, tk, rfl⟩ := h v List.mem_cons_self
    exact .cons z tk (strs_of l fun u hu => h u (List.mem_cons_of_mem _ hu))
theorem sort_Z {X : Cx} (hc : X.calm = true) : CallR X (.builtin "sorted") (rSortZ X.w) := by
  intro pins s σ H vs us Q I r h
  obtain ⟨a, rfl, L, ha, q⟩ := h
  obtain ⟨o, es, ep, t, ho, hex, hd, g, pL, nd, hb, hf, hr, hl⟩ := setSO_at I ha
  rw [Vals.ref1 r]
  have hn : es.size = L.length := by rw [← Array.length_toList, ← List.length_map (f := zOf), pL.length_eq]
  have hL : L.length ≤ sizeLine := by rw [← hn]; exact fits_of_scanBound hb
  refine Calls.call_function_entry kind_sorted plain_sorted entry_sorted (args_sorted1 _) ?_
  unfold Builtin.«sorted»
  refine wpAny_bind (m := checkCount "sorted" 1 1 _) (wpAny_pure (wpAny_bind (collect_set (A := X.A.in1) (I.ok.hd hc) ⟨o, ho, hex.1, hd⟩ hf hb hr hl fun s1 vs k1 hz g1 o1 pm => ?_)))
  have hvl : vs.length = L.length := by rw [pm.length_eq, List.length_map, Array.length_toList, hn]
  have hI : StrsAre vs (vs.map fun v => zOf (0, v)) := strs_of vs fun v hv => by
    obtain ⟨e, he, rfl⟩ := List.mem_map.mp (pm.mem_iff.mp hv)
    obtain ⟨z, tk, h1, _⟩ := g e he
    exact ⟨z, tk, h1⟩
  have pk : (vs.map fun v => zOf (0, v)).Perm L := by
    refine List.Perm.trans (l₂ := es.toList.map zOf) ?_ pL
    have k := pm.map fun v => zOf (0, v)
    rw [List.map_map] at k
    exact k
  refine wpAny_bind (wpAny_newList ?_ (by rw [hvl]; exact hL))
  have hoL : (s1.heap.push (seqObj "list" vs.toArray 0)).get? s1.heap.objs.size = some (seqObj "list" vs.toArray 0) := Heap.get?_push_size _ rfl
  refine wpAny_bind (wpAny_holding (wpAny_call_entry slot_list_sort ⟨_, hoL, rfl⟩ entry_list_sort (list_sort_treeKAny (κ := strKind) strKind_oneLt hoL hI.keysOf (fun v₁ v₂ rest e => keyKind_strs (by rw [← e]; exact hI)) (by rw [hvl]; exact hL) fun st' hp hs => ?_) (args_list_sort _)))
  obtain ⟨ys, y1, y2, y3⟩ := sorted_out_str hI hp hs
  obtain ⟨c, hcc⟩ := sortedHeap_at (vs := vs) (out := (arrOf st').map (·.2)) hoL
  have old : ∀ b u, s.heap.get? b = some u → (sortedHeap (s1.heap.push (seqObj "list" vs.toArray 0)) s1.heap.objs.size vs ((arrOf st').map (·.2))).get? b = some u := fun b u e => by
    have k := k1 b u e
    have lt := Heap.lt_size k
    rw [sortedHeap_old (Nat.ne_of_lt lt) (by rw [size_push']; exact Nat.lt_succ_of_lt lt)]
    exact Heap.get?_push_of_some _ k
  have hlen : (ms ys).length ≤ sizeLine := by rw [List.length_map, y2.length_eq, List.length_map, hvl]; exact hL
  have hp0 : H s1.heap.objs.size = none := I.hok.fresh hz
  generalize sortedHeap (s1.heap.push (seqObj "list" vs.toArray 0)) s1.heap.objs.size vs ((arrOf st').map (·.2)) = h2 at old hcc
  have J : Inv X pins σ (upd H s1.heap.objs.size (.lst (ms ys))) { s with heap := h2, gens := s1.gens, drawn := s1.drawn, toks := s1.toks } := I.call (ch := []) (Un.laid old hz hp0) (I.hok.laid old hz ⟨hlen, _, c, vals_of_strs y1, hcc⟩) (by rw [g1]; exact I.bare) (fun _ k => nomatch k)
  have e : ({ s1 with heap := h2 } : Shared) = { s with heap := h2, gens := s1.gens, drawn := s1.drawn, toks := s1.toks } := by
    cases s1
    cases s
    cases o1
    rfl
  refine ⟨_, rfl, wpAny_pure ⟨_, rfl, .ref s1.heap.objs.size, _, ?_, rfl, q ys _ (y2.trans pk) nd y3 hp0⟩⟩
  show Inv X pins σ _ ({ s1 with heap := h2 } : Shared)
  rw [e]
  exact J
end Fx
/-! o(e, ..), the class of o has a __call__; o op p in a try's body -/
namespace Fx
open PySem PySem.Spec PySem.Calls PyProof.Rows L2
section
variable {M : Model} {A : Around} {E : Value → Shared → Prop} {s : Shared} {K : PySem.W.Frag} {pos : Pos} {x C : Addr} {Q : Value → Shared → Prop}
theorem own_with {args : List (Bool × Sem Value)} (hp : args.any (·.1) = false) (h : wpAny M A (evalArgs (.ref x) true args []) (fun a s₁ => (∃ ox od, PySem.W.InstAt s₁.heap x ox C od ∧ ox.data = .plain) ∧ wpAny M A (call (.ref x) a.pos a.kw) Q E s₁) E s) : wpAny M A (callWith pos (.ref x) [] args []) Q E s := by
  unfold callWith
  refine wpAny_bind (wpAny_holding (wpAny_mono h (fun a s₁ ⟨⟨ox, od, J, hd⟩, hc⟩ => wpAny_bind (wpAny_standAt ?_)) fun _ _ y => y))
  have pl : (args.any (·.1) || ([] : List (Option Str × Sem Value)).any (·.1.isNone)) = false := by rw [hp]; rfl
  simp only [pl]
  refine wpAny_bind ((PySem.W.kco_keeper (M := M) J hd).here (wpAny_bind (wpAny_mono (wpAny_operateT hc) (fun r s₂ hr => wpAny_bind (wpAny_holding (wpAny_point (wpAny_pure hr)))) fun _ _ y => y)))
end
section
variable {X : Cx} {k : Nat} {C : Addr} {CX : CXT} {ps : List Str} {sp : Sp} {W : WX} {x : Str} {p pos : Pos} {e : Expr} {es : List Expr} {ta : TE} {t : TA} {E : L2.St → XK}
def callB (K : PySem.W.Frag) (C : Addr) : Bool := match PySem.W.findIn K (.ref C) "__call__" with
  | some (some (.ref f)) => PySem.W.fnIn K f
  | _ => false
theorem callB_ok {K : PySem.W.Frag} {C f : Addr} (h : callB K C = true) (e : PySem.W.findIn K (.ref C) "__call__" = some (some (.ref f))) : PySem.W.fnIn K f = true := by
  unfold callB at h
  rw [e] at h
  exact h
theorem pAt {X : Cx} {CX : CXT} {E : XK} (h : Passes CX X E) (σ : L2.St) : PassesAt CX X σ E := fun pins H s e s' I c => h pins σ H s e s' I c
def tCallO (C : Addr) (sp : Sp) (E : L2.St → XK) (ta : TE) (t : TA) : TE := fun σ H Q => ta σ H fun x H1 => ∃ a, x = .ref a ∧ t σ H1 fun vs H2 => ∃ dx fs, H2 a = some (.ins C dx fs) ∧ sp (x :: vs) H2 Q (E σ)
theorem pe_callO (M : CalM X.prog X.w X.K X.mg X.base CX k C "__call__" ps sp) (hc : callB X.K C = true) (hr : Room k X.A) (hx : ∀ σ, PassesAt CX X σ (E σ)) (hn : PE X (.Name x p) ta) (ha : PA X (e :: es) t) (hs : (e :: es).all nostar = true := by rfl) :
    PE X (.Call (.Name x p) (e :: es) [] pos) (tCallO C sp E ta t) := by
  obtain ⟨f, fd, m, b, F⟩ := M.ex
  simp only [List.all_cons, Bool.and_eq_true] at hs
  refine ⟨fun pins s σ H Q I h => ?_⟩
  refine wpAny_Call_Name_kw (thn (hn.run pins s σ H _ I h) fun u s1 ⟨v, H1, I1, rv, a, ev, q⟩ => ?_)
  subst ev
  obtain rfl : u = Value.ref a := rv
  have pl : (backTo pos (starEach (e :: es) X.env)).any (·.1) = false := by
    rw [star_ok hs.1]
    show (false || (backTo pos (starEach es X.env)).any (·.1)) = false
    rw [back_ok hs.2]
    rfl
  refine own_with (C := C) pl ?_
  have hA := ha.run pos pins s1 σ H1 _ I1 q
  rw [star_ok hs.1] at hA ⊢
  refine evalArgs_plain (thn hA fun us s2 ⟨vs, H2, I2, r, dx, fs, h2, q2⟩ => ?_)
  obtain ⟨ox, od, J, hd⟩ : ∃ ox od, PySem.W.InstAt s2.heap a ox C od ∧ ox.data = .plain := by
    obtain ⟨mA, J, _⟩ := ins_get I2.hok h2
    obtain ⟨od, J, _⟩ := J.look
    exact ⟨_, od, J, rfl⟩
  refine ⟨⟨ox, od, J, hd⟩, ?_⟩
  have e0 := I2.env0
  have rr : Vals (V.ref a :: vs) (Value.ref a :: us) := .cons rfl r
  have hl : (Value.ref a :: us).length = ps.length := by rw [← rr.length]; exact F.len _ _ _ _ q2
  have bb := b s2 (Value.ref a :: us) I2.kIn (by rw [List.append_nil]; exact hl)
  rw [List.append_nil] at bb
  refine wpAny_call (PySem.W.kco_code I2.kIn J hd m.at_ m.fn (callB_ok hc m.at_) (codeAny_mono (F.run X.A X.stack s2 H2 ⟨.ref a :: us, []⟩ (.ref a :: us) (V.ref a :: vs) Q (E σ) hr e0 bb rr q2) fun rs s' hq => ?_))
  cases rs with
  | error ex => exact hx σ pins H2 s2 ex s' I2 hq
  | ok fl =>
    cases fl with
    | ret u => exact I2.after hq
    | next => exact False.elim hq
    | brk => exact False.elim hq
    | cont => exact False.elim hq
theorem run_at {A : Around} {f : Addr} {fd : FuncData} {pins : List (Addr × Obj)} {σ : L2.St} {H : Hp} {s : Shared} {Q : VK} {us : List Value} {vs : List V} (hA : A.frames = X.A.frames) (F : FnOk X.prog X.w X.K X.mg X.base CX k f fd ps sp) (hr : Room k A) (hb : Binds X.K fd ps []) (hx : PassesAt CX X σ (E σ))
    (I : Inv X pins σ H s) (r : Vals vs us) (h : sp vs H Q (E σ)) : wpAny (model X.prog X.w) A (call (.ref f) us) (EP X pins σ Q) X.xe s := by
  have e := I.env0
  have e0 : Env0 X.prog X.w X.K X.mg X.base A X.stack s H := ⟨by rw [hA]; exact e.frames, e.mod, e.bs, e.bsz, e.funs, e.frf, e.hok, e.bare⟩
  have hl : us.length = ps.length := r.length ▸ F.len _ _ _ _ h
  have bb := hb s us I.kIn (by rw [List.append_nil]; exact hl)
  rw [List.append_nil] at bb
  refine wpAny_call (codeAny_mono (F.run A X.stack s H ⟨us, []⟩ us vs Q (E σ) hr e0 bb r h) fun rs s' hq => ?_)
  cases rs with
  | error ex => exact hx pins H s ex s' I hq
  | ok fl =>
    cases fl with
    | ret u => exact I.after hq
    | next => exact False.elim hq
    | brk => exact False.elim hq
    | cont => exact False.elim hq
/-- o op p in a try's body -/
def tBinT (C : Addr) (sp : Sp) (E : L2.St → XK) (ta tb : TE) : TE := fun σ H Q => ta σ H fun x H1 => tb σ H1 fun y H2 => ∃ a b dx dy fs gs, x = .ref a ∧ y = .ref b ∧ H2 a = some (.ins C dx fs) ∧ H2 b = some (.ins C dy gs) ∧ sp [.ref a, .ref b] H2 (fun v H' => ∃ r, v = .ref r ∧ Q (.ref r) H') (E σ)
theorem pe_binT {op : Operator} {mn : Str} {a b : Expr} {tb : TE} (hop : PySem.dunder op.info.2 = mn) (M : CalM X.prog X.w X.K X.mg X.base CX k C mn ps sp) (hc : PySem.W.selfFirst X.K C = true) (hr : Room k X.A) (hx : ∀ σ, PassesAt CX X σ (E σ)) (ha : PE X a ta) (hb : PE X b tb) :
    PE X (.BinOp a op b pos) (tBinT C sp E ta tb) := by
  refine ⟨fun pins s σ H Q I h => wpAny_BinOp (binT ha hb I h fun v u s2 x y H2 I2 rx ry hq => ?_)⟩
  obtain ⟨f, fd, m, b, F⟩ := M.ex
  obtain ⟨a, c, dx, dy, fs, gs, rfl, rfl, h1, h2, hsp⟩ := hq
  cases rx
  cases ry
  subst hop
  obtain ⟨ox, od, J⟩ := inst_at I2 h1
  obtain ⟨oy, od', J'⟩ := inst_at I2 h2
  obtain ⟨mm, hF⟩ := I2.fr
  refine PySem.W.binop_K hF I2.ok.mod.kin J J'.type hc m.at_ m.fn (wpAny_mono (run_at (vs := [.ref a, .ref c]) (us := [.ref a, .ref c]) rfl F hr b (hx σ) I2 (.cons rfl (.cons rfl .nil)) hsp) (fun v s' hv => ?_) fun _ _ z => z)
  obtain ⟨z, H', I', rz, r, rfl, q⟩ := hv
  cases rz
  exact ⟨.ref r, H', I', rfl, q⟩
end
end Fx
/-! text += text, range with a step in a comprehension, a reading that depends on the slots -/
namespace Fx
open PySem PySem.Spec PyProof.Rows L2
section
variable {X : Cx} {pos : Pos}
def ipZ : TIp := fun x y H Q => ∃ a b, x = .str a ∧ y = .str b ∧ a.length + b.length ≤ sizeLine ∧ Q (.str (a ++ b)) H
theorem ip_addZ : PIp X .Add ipZ := fun pins s σ H x y v u Q I rx ry h => iop_add_str pins s σ H x y v u Q I rx ry h
/-- a reading that leans on the slots -/
def tDep (T : L2.St → TE) : TE := fun σ H Q => T σ σ H Q
theorem pe_dep {e : Expr} {T : L2.St → TE} (h : ∀ σ, PE X e (T σ)) : PE X e (tDep T) := ⟨fun pins s σ H Q I q => (h σ).run pins s σ H Q I q⟩
theorem cx_w {CX : CXT} {P : Program} {w : World} {K : PySem.W.Frag} {mg : Str → Option Value} {base : Heap} {N : List Str} {qual : Str} {scope : Scope} {f : Addr} {cd : Value} {A : Around} {outer : List Env} {s : Shared} {H : Hp} {E : XK} :
    (cxOf CX P w K mg base N qual scope f cd A outer s H E).w = w := rfl
end
theorem lc_rangeC {lo c : Int} {n : Nat} {g : TG} {tt : TT} {te : TE} {vs : List Nat} {σ : L2.St} {H1 : Hp} {D : Addr} {Qd : Hp → Prop} (Pv : Nat → Hp → Prop) (h0 : Pv 0 (upd H1 D (.lst [])))
    (hs : ∀ i H, i < n → Pv i H → g (.int (lo + (i : Nat) * c)) (wipe σ vs) H fun σ2 H2 => wipe σ2 vs = wipe σ vs ∧ tt σ2 H2 fun b H3 => if b = true then te σ2 H3 fun y H4 => ∃ acc, H4 D = some (.lst acc) ∧ acc.length < sizeLine ∧ Pv (i + 1) (upd H4 D (.lst (acc ++ [y]))) else Pv (i + 1) H3)
    (hd : ∀ H, Pv n H → Qd H) : ∃ W : Nat → Nat → Hp → Prop, (∃ m, W 0 m (upd H1 D (.lst []))) ∧ ∀ i m H, W i m H →
      ((Itc lo c n).stop i H ∧ Qd H) ∨ ((Itc lo c n).go i H ∧ ∃ Nx : Hp → Prop, (∀ H', Nx H' → ∃ m', m' < m ∧ W (i + 1) m' H') ∧ ∀ x H', (Itc lo c n).yld i H x H' → g x (wipe σ vs) H' fun σ2 H2 => wipe σ2 vs = wipe σ vs ∧ tt σ2 H2 fun b H3 =>
        if b = true then te σ2 H3 fun y H4 => ∃ acc, H4 D = some (.lst acc) ∧ acc.length < sizeLine ∧ Nx (upd H4 D (.lst (acc ++ [y]))) else Nx H3) := by
  refine ⟨fun i m H => m = n - i ∧ i ≤ n ∧ Pv i H, ⟨n, by omega, Nat.zero_le _, h0⟩, ?_⟩
  rintro i m H ⟨rfl, hi, p⟩
  rcases Nat.lt_or_ge i n with hlt | hge
  · refine .inr ⟨hlt, Pv (i + 1), fun H' p' => ⟨n - (i + 1), by omega, rfl, hlt, p'⟩, ?_⟩
    rintro x H' ⟨rfl, rfl⟩
    exact hs i _ hlt p
  · obtain rfl : i = n := by omega
    exact .inl ⟨Nat.le_refl _, hd H p⟩
theorem rgC_up {a b c : Int} {n : Nat} (hc : 0 < c) (hc2 : c < 1000000) (ha : -(2 ^ 60) ≤ a) (ha' : a ≤ 2 ^ 60) (hb : -(2 ^ 60) ≤ b) (hb' : b ≤ 2 ^ 60) (hn : (n : Int) = if a < b then (b - a - 1) / c + 1 else 0) : RgC a b c n := by
  have hz : Builtin.Range.rangeSize a b c = if a < b then (b - a - 1) / c + 1 else 0 := by
    unfold Builtin.Range.rangeSize
    rw [if_pos hc]
  refine ⟨by omega, by omega, ?_, by rw [hz, hn]⟩
  unfold Builtin.Range.small
  rw [hz]
  by_cases h : a < b
  · have h1 : (b - a - 1) / c ≤ b - a - 1 := Int.ediv_le_self _ (by omega)
    have h2 : 0 ≤ (b - a - 1) / c := Int.ediv_nonneg (by omega) (by omega)
    simp only [Builtin.Range.rangeFitsLong, Bool.and_eq_true, Bool.or_eq_true, decide_eq_true_eq, beq_iff_eq, if_pos h, if_pos hc]
    omega
  · simp only [Builtin.Range.rangeFitsLong, Bool.and_eq_true, Bool.or_eq_true, decide_eq_true_eq, beq_iff_eq, if_neg h, if_pos hc]
    omega
end Fx
/-! A def that is called in an except suite with plain arguments -/
namespace Fx
open PySem PySem.Spec PySem.Calls PyProof.Rows L2
structure FnQ (P : Program) (w : World) (K : PySem.W.Frag) (mg : Str → Option Value) (base : Heap) (k : Nat) (f : Addr) (fd : FuncData) (ps : List Str) (sp : Sp) : Prop where
  len : ∀ vs H Q E, sp vs H Q E → vs.length = ps.length
  run : ∀ (A : Around) (outer : List Env) (s : Shared) (H : Hp) (args : Args) (us : List Value) (vs : List V) (Q : VK) (p : Addr × Obj), L2H.RoomH k A → L2H.PinOk outer H s p → Env0 P w K mg base A outer s H → BindsTo s fd args (ps.zip us) → Vals vs us → sp vs H Q E0 →
    codeAny (model P w) A (.call (.ref f) args) (CR CX0 outer P w H s Q E0) s
theorem fn_ofQ {P : Program} {w : World} {K : PySem.W.Frag} {mg : Str → Option Value} {base : Heap} {k : Nat} {f : Addr} {name qual : Str} {params : Arguments} {body : List Stmt} {scope : Scope} {dV kV doc pm cdv ct oc : Value} {an od : Option Addr} {osl : Array (Option Value)} {N ps : List Str} {sp : Sp}
    (lk : K.lookup f = some ⟨oc, od, .func (PySem.W.fnOf name qual params body scope dV kV doc pm an cdv ct), osl⟩) (hcd : PySem.W.codeIn K cdv qual = true) (S : FnScope N ps scope) (len : ∀ vs H Q E, sp vs H Q E → vs.length = ps.length)
    (hbody : ∀ (A : Around) (outer : List Env) (s : Shared) (H : Hp) (vs : List V) (Q : VK) (p : Addr × Obj), L2H.RoomH k (A.deeper (envOfC qual scope s.heap.objs.size f cdv)) → sp vs H Q E0 → ∃ t, PSs (cxE P w K mg base N qual scope f cdv A outer s H p) body t ∧ t { nx := fun _ H' => Q .non H', rt := Q } (L2.start N vs) H) :
    FnQ P w K mg base (k + 1) f (PySem.W.fnOf name qual params body scope dV kV doc pm an cdv ct) ps sp := by
  refine ⟨len, fun A outer s H args us vs Q p hr hpin e0 hb rv hsp => ?_⟩
  have hl := len _ _ _ _ hsp
  have KX : K.In s.heap := e0.mod.kin.keeps fun b o e => (e0.bs b o e).1
  have lim : s.heap.NoLimit := e0.mod.nolimit.keeps fun b o e => (e0.bs b o e).1
  have hkind : ∀ y ∈ ps.zip us, scope.names.lookup y.1 = some .local ∨ (scope.names.lookup y.1 = some .cell ∧ ((cellsFrom (s.heap.objs.size + 1) scope.names []).lookup y.1).isSome = true) := by
    rintro ⟨n, v⟩ hy
    rcases S.par n (List.of_mem_zip hy).1 with q | q
    · exact .inl q
    · exact .inr ⟨q, PySem.W.cellsFrom_some _ _ _ (.inl q)⟩
  refine codeAny_call_function hr.depth (KX _ _ lk) rfl S.co S.gen rfl (PySem.W.codeRec_of KX hcd) (hb _ _ _ _ (wpAny_newFunctionEnv_cells S.kind hkind fun env he s1 y => ?_))
  subst he
  refine ⟨lim.keeps y.toInCall.keep, codeAny_func ?_⟩
  obtain ⟨t, ht, hq⟩ := hbody A outer s H vs Q p (hr.deeper _) hsp
  have I : Inv (L2H.cxH CX0 P w K mg base N qual scope f cdv A outer s H E0 p) [] (L2.start N vs) H s1 := L2H.inv_startH S hpin e0 hl rv y
  refine wpAny_mono (ht.nox.run [] s1 (L2.start N vs) H _ I hq) (fun fl s' hs => ?_) fun e s' hs => hs
  have fin : ∀ {σ' : L2.St} {H' : Hp} {v : V} {u : Value}, Inv (L2H.cxH CX0 P w K mg base N qual scope f cdv A outer s H E0 p) [] σ' H' s' → RelV v u → Q v H' → CE outer P w H s Q u s' := fun {σ' H' v u} J rv q => ⟨v, H', J.os, J.bare, J.base, J.hok, rv, q⟩
  cases fl with
  | ret u =>
    obtain ⟨v, σ', H', J, rv, q⟩ := hs
    exact fin J rv q
  | next =>
    obtain ⟨σ', H', J, q⟩ := hs
    exact fin (v := V.non) (u := Value.none) J rfl q
  | brk =>
    obtain ⟨_, _, _, q⟩ := hs
    exact False.elim q
  | cont =>
    obtain ⟨_, _, _, q⟩ := hs
    exact False.elim q
structure CalQ (P : Program) (w : World) (K : PySem.W.Frag) (mg : Str → Option Value) (base : Heap) (k : Nat) (x : Str) (ps : List Str) (sp : Sp) : Prop where
  ex : ∃ f fd, mg x = some (.ref f) ∧ PySem.W.keepIn K (.ref f) = true ∧ Binds K fd ps [] ∧ FnQ P w K mg base k f fd ps sp
theorem Src.calQ {P : Program} {w : World} {K : PySem.W.Frag} {mg : Str → Option Value} {base : Heap} {x : Str} {st : Stmt} {N ps : List Str} {k : Nat} {sp : Sp} (S : Src K mg x st) (sc : FnScope N ps (defScope st)) (bn : BindP x st ps) (len : ∀ vs H Q E, sp vs H Q E → vs.length = ps.length)
    (hbody : ∀ (f : Addr) (cdv : Value) (A : Around) (outer : List Env) (s : Shared) (H : Hp) (vs : List V) (Q : VK) (p : Addr × Obj), L2H.RoomH k (A.deeper (envOfC x (defScope st) s.heap.objs.size f cdv)) → sp vs H Q E0 →
      ∃ t, PSs (cxE P w K mg base N x (defScope st) f cdv A outer s H p) (defBody st) t ∧ t { nx := fun _ H' => Q .non H', rt := Q } (L2.start N vs) H) : CalQ P w K mg base (k + 1) x ps sp := by
  obtain ⟨f, fd, g, F⟩ := S
  have b := F.bindsN bn
  have kp := F.kp
  obtain ⟨oc, od, dV, kV, doc, pm, an, cdv, ct, osl, rfl, lk, hcd, _, _⟩ := F.ex
  exact ⟨f, _, g, kp, b, fn_ofQ lk hcd sc len fun A outer s H vs Q p hr hsp => hbody f cdv A outer s H vs Q p hr hsp⟩
section
variable {X : Cx} {k : Nat} {x : Str} {ps : List Str} {sp : Sp} {p pos : Pos} {e : Expr} {es : List Expr} {t : TA} {a : Addr} {oe : Obj} {pn : List (Addr × Obj)}
/-- f(e, ..) in the suite -/
theorem pe_calQ (C : CalQ X.prog X.w X.K X.mg X.base k x ps sp) (hr : Room k X.A) (ha : PA (X.suite a ((a, oe) :: pn)) (e :: es) t) (hg : Gl (X.suite a ((a, oe) :: pn)) x := by rfl) (hdb : (x == ("__debug__" : Str)) = false := by decide)
    (hs : (e :: es).all nostar = true := by rfl) : PE (X.suite a ((a, oe) :: pn)) (.Call (.Name x p) (e :: es) [] pos) (tCall sp [] E0 t) := by
  obtain ⟨f, fd, g, kp, b, F⟩ := C.ex
  simp only [List.all_cons, Bool.and_eq_true] at hs
  refine ⟨fun pins s σ H Q I h => wpAny_Call_Name_kw (ld_glob I hg g ?_ hdb)⟩
  refine PySem.W.callWith_K (h₀ := X.base) I.ok.mod.kin kp (thn (ha.run pos pins s σ H _ I h) fun us s1 ⟨vs, H1, I1, r, q⟩ => ⟨I1.kIn, ?_⟩) (star_ok hs.1) (back_ok hs.2)
  have q : sp (vs ++ []) H1 Q E0 := q
  rw [List.append_nil] at q
  have P1 := I1.pin (a, oe) (List.mem_append_left _ List.mem_cons_self)
  have hpin : L2H.PinOk X.stack H1 s1 (a, oe) := ⟨P1.1, P1.2.1, fun hm => (List.mem_cons.mp (I1.stkSub a hm)).elim P1.2.2.1 P1.2.2.2.1, P1.2.2.2.2⟩
  have hl : us.length = ps.length := by rw [← r.length]; exact F.len _ _ _ _ q
  have bb := b s1 us I1.kIn (by rw [List.append_nil]; exact hl)
  rw [List.append_nil] at bb
  refine wpAny_call (codeAny_mono (F.run (X.suite a ((a, oe) :: pn)).A X.stack s1 H1 ⟨us, []⟩ us vs Q (a, oe) ⟨hr.dp, hr.un⟩ hpin I1.env0 bb r q) fun rs s' hq => ?_)
  cases rs with
  | error e => exact False.elim hq
  | ok fl =>
    cases fl with
    | ret u => exact I1.after hq
    | next => exact False.elim hq
    | brk => exact False.elim hq
    | cont => exact False.elim hq
end
end Fx
/-! Walking an object of an own class whose __iter__ gives a tuple's iterator; a def with one default; a statement that is not reached -/
namespace Fx
open PySem PySem.Spec PyProof.Rows L2
/-- a def that keeps its promise, entered where the heap has at least n objects -/
structure FnOkN (P : Program) (w : World) (K : PySem.W.Frag) (mg : Str → Option Value) (base : Heap) (k n : Nat) (f : Addr) (fd : FuncData) (ps : List Str) (sp : Sp) : Prop where
  len : ∀ vs H Q E, sp vs H Q E → vs.length = ps.length
  run : ∀ (A : Around) (outer : List Env) (s : Shared) (H : Hp) (args : Args) (us : List Value) (vs : List V) (Q : VK) (E : XK), n ≤ s.heap.objs.size → Room k A → Env0 P w K mg base A outer s H → BindsTo s fd args (ps.zip us) → Vals vs us → sp vs H Q E →
    codeAny (model P w) A (.call (.ref f) args) (CR CX0 outer P w H s Q E) s
theorem fn_ofN {P : Program} {w : World} {K : PySem.W.Frag} {mg : Str → Option Value} {base : Heap} {k n : Nat} {f : Addr} {name qual : Str} {params : Arguments} {body : List Stmt} {scope : Scope} {dV kV doc pm cdv ct oc : Value} {an od : Option Addr}
    {osl : Array (Option Value)} {N ps : List Str} {sp : Sp} (lk : K.lookup f = some ⟨oc, od, .func (PySem.W.fnOf name qual params body scope dV kV doc pm an cdv ct), osl⟩) (hcd : PySem.W.codeIn K cdv qual = true) (S : FnScope N ps scope)
    (len : ∀ vs H Q E, sp vs H Q E → vs.length = ps.length)
    (hbody : ∀ (A : Around) (outer : List Env) (s : Shared) (H : Hp) (vs : List V) (Q : VK) (E : XK), n ≤ s.heap.objs.size → Room k (A.deeper (envOfC qual scope s.heap.objs.size f cdv)) → sp vs H Q E →
      ∃ t, PSs (cxOf CX0 P w K mg base N qual scope f cdv A outer s H E) body t ∧ t { nx := fun _ H' => Q .non H', rt := Q } (start N vs) H) :
    FnOkN P w K mg base (k + 1) n f (PySem.W.fnOf name qual params body scope dV kV doc pm an cdv ct) ps sp := by
  refine ⟨len, fun A outer s H args us vs Q E hn hr e0 hb r hsp => ?_⟩
  have hl := len _ _ _ _ hsp
  have KX : K.In s.heap := e0.mod.kin.keeps fun b o e => (e0.bs b o e).1
  have lim : s.heap.NoLimit := e0.mod.nolimit.keeps fun b o e => (e0.bs b o e).1
  have hkind : ∀ y ∈ ps.zip us, scope.names.lookup y.1 = some .local ∨ (scope.names.lookup y.1 = some .cell ∧ ((cellsFrom (s.heap.objs.size + 1) scope.names []).lookup y.1).isSome = true) := fun ⟨n, v⟩ hy => by
    rcases S.par n (List.of_mem_zip hy).1 with q | q
    · exact .inl q
    · exact .inr ⟨q, PySem.W.cellsFrom_some _ _ _ (.inl q)⟩
  refine codeAny_call_function hr.depth (KX _ _ lk) rfl S.co S.gen rfl (PySem.W.codeRec_of KX hcd) (hb _ _ _ _ ?_)
  refine wpAny_newFunctionEnv_cells S.kind hkind fun env he s1 x => ?_
  subst he
  refine ⟨lim.keeps x.toInCall.keep, codeAny_func ?_⟩
  obtain ⟨t, ht, hq⟩ := hbody A outer s H vs Q E hn (hr.deeper _) hsp
  have I : Inv (cxOf CX0 P w K mg base N qual scope f cdv A outer s H E) [] (start N vs) H s1 := inv_start S hr.hd e0 hl r x
  refine wpAny_mono (ht.run [] s1 (start N vs) H _ I hq) (fun fl s' hs => ?_) fun e s' hs => hs
  have fin : ∀ {σ' : L2.St} {H' : Hp} {v : V} {u : Value}, Inv (cxOf CX0 P w K mg base N qual scope f cdv A outer s H E) [] σ' H' s' → RelV v u → Q v H' → CE outer P w H s Q u s' :=
    fun {σ' H' v u} J rv q => ⟨v, H', J.os, J.bare, J.base, J.hok, rv, q⟩
  cases fl with
  | ret u =>
    obtain ⟨v, σ', H', J, rv, q⟩ := hs
    exact fin J rv q
  | next =>
    obtain ⟨σ', H', J, q⟩ := hs
    exact fin (v := V.non) (u := Value.none) J rfl q
  | brk =>
    obtain ⟨_, _, _, q⟩ := hs
    exact False.elim q
  | cont =>
    obtain ⟨_, _, _, q⟩ := hs
    exact False.elim q
/-- a method whose promise may speak of the objects that were there -/
structure CalMN (P : Program) (w : World) (K : PySem.W.Frag) (mg : Str → Option Value) (base : Heap) (k : Nat) (C : Addr) (m : Str) (ps : List Str) (spn : Nat → Sp) : Prop where
  ex : ∃ f fd, Meth K C m f ∧ Binds K fd ps [] ∧ ∀ n, FnOkN P w K mg base k n f fd ps (spn n)
section
variable {P : Program} {w : World} {K : PySem.W.Frag} {mg : Str → Option Value} {base : Heap} {k n : Nat} {ps N : List Str} {sp : Sp} {x qual : Str} {st : Stmt} {f : Addr} {fd : FuncData}
theorem ok0N (F : FunD K x qual (defArgs st) (defBody st) (defScope st) [] [] f fd) (sc : FnScope N ps (defScope st)) (len : ∀ vs H Q E, sp vs H Q E → vs.length = ps.length)
    (hbody : ∀ (f : Addr) (cdv : Value) (A : Around) (outer : List Env) (s : Shared) (H : Hp) (vs : List V) (Q : VK) (E : XK), n ≤ s.heap.objs.size → Room k (A.deeper (envOfC qual (defScope st) s.heap.objs.size f cdv)) → sp vs H Q E →
      ∃ t, PSs (cxOf CX0 P w K mg base N qual (defScope st) f cdv A outer s H E).nox (defBody st) t ∧ t { nx := fun _ H' => Q .non H', rt := Q } (L2.start N vs) H) : FnOkN P w K mg base (k + 1) n f fd ps sp := by
  obtain ⟨oc, od, dV, kV, doc, pm, an, cdv, ct, osl, rfl, lk, hcd, _, _⟩ := F.ex
  refine fn_ofN lk hcd sc len fun A outer s H vs Q E hn hr hsp => ?_
  obtain ⟨t, h, q⟩ := hbody f cdv A outer s H vs Q E hn hr hsp
  exact ⟨t, h.nox, q⟩
end
section
variable {X : Cx}
/-- iter(t), younger than the def's entry -/
def rIterTN (n : Nat) : List V → Hp → VK → Prop := fun xs H Q => ∃ t, xs = [.ref t] ∧ ∃ zs, FT H t zs ∧ ∀ it, H it = none → n ≤ it → Q (.ref it) (upd H it (TItO t it 0))
theorem iter_TN : CallR X (.builtin "iter") (rIterTN X.s_0.heap.objs.size) := by
  intro pins s σ H xs us Q I r h
  obtain ⟨t, rfl, zs, hq, q⟩ := h
  obtain ⟨u, rfl, ru⟩ := r.one
  cases ru
  obtain ⟨its, rv, pl, hz⟩ := I.tuple (xs := zs) hq.sq
  refine call_iterT0 pl ?_
  exact ⟨.ref s.heap.objs.size, _, I.laid (t' := s.toks) (fun b u e => Heap.get?_push_of_some _ e) (Nat.le_refl _) (titO_ok ⟨_, Heap.get?_push_size _ rfl, rfl, rfl⟩), rfl, q _ (I.hok.fresh (Nat.le_refl _)) I.sz⟩
/-- for .. in o, o of an own class -/
def iOwn (K : PySem.W.Frag) (C : Addr) (spn : Nat → Sp) (n : Nat) (te : TE) : TI := fun σ H R => te σ H fun x H1 => ∃ a dx fs, x = .ref a ∧ H1 a = some (.ins C dx fs) ∧
  spn n [.ref a] H1 (fun v H2 => ∃ it p, v = .ref it ∧ n ≤ it ∧ H2 it = some (TItO p it 0) ∧ R (Itt K p) (ItX.dropH H2 it)) E0
theorem pi_O {tg e : Expr} {te : TE} {k : Nat} {C : Addr} {ps : List Str} {spn : Nat → Sp} (M : CalMN X.prog X.w X.K X.mg X.base k C "__iter__" ps spn) (hr : Room k X.A) (he : PE X e te) : PI X tg e (iOwn X.K C spn X.s_0.heap.objs.size te) := by
  refine ⟨fun pins s σ H R I h => ?_⟩
  refine thn (he.run pins s σ H _ I h) fun v s1 ⟨x, H1, I1, r1, a, dx, fs, ex, ha, hsp⟩ => ?_
  subst ex
  cases r1
  obtain ⟨f, fd, m, b, F⟩ := M.ex
  obtain ⟨ox, od, J⟩ := inst_at I1 ha
  obtain ⟨mm, hF⟩ := I1.fr
  refine PySem.W.owit_iter hF I1.ok.mod.kin J m.at_ m.fn ?_
  have hb := b s1 [.ref a] I1.kIn (by simpa using (F _).len _ _ _ _ hsp)
  refine wpAny_call (codeAny_mono ((F X.s_0.heap.objs.size).run X.A X.stack s1 H1 ⟨[.ref a], []⟩ [.ref a] [.ref a] _ E0 I1.sz hr I1.env0 (by simpa using hb) (.cons rfl .nil) hsp) fun r s' hq => ?_)
  cases r with
  | error e => exact False.elim hq
  | ok fl =>
    cases fl with
    | next => exact False.elim hq
    | brk => exact False.elim hq
    | cont => exact False.elim hq
    | ret u =>
      obtain ⟨z, H2, I2, rz, it, p, ez, hn, hit, q⟩ := I1.after hq
      subst ez
      cases rz
      have hit0 : s'.heap.IsTupleIter it p 0 := (I2.hok it _ hit).1
      have hit' := hit
      unfold TItO at hit'
      unfold PySem.W.OwitIt
      refine wpAny_specialOf (name := Str.ofString "__next__") hit0.typeIs PySem.F.slot_tuple_iterator_next.lookup ?_
      refine ⟨it, [it], _, _, ItX.dropH H2 it, rfl, ItX.inv_drop I2 hit', turn_tuple p it, hit0, fun b hb => ?_, q⟩
      have e : b = it := by simpa using hb
      rw [e]
      exact ItX.inv_fp I2 hit hn
end
/-! ### a statement that is not reached -/
def tDead : TS := fun _ _ _ => False
theorem ps_dead {X : Cx} {st : Stmt} : PS X st tDead := ⟨fun _ _ _ _ _ _ h => h.elim⟩
/-! ### a def with one default -/
def SrcD (K : PySem.W.Frag) (mg : Str → Option Value) (x : Str) (st : Stmt) (dv : V) : Prop := ∃ f fd, mg x = some (.ref f) ∧ FunD K x x (defArgs st) (defBody st) (defScope st) [dv] [] f fd
structure CalD (P : Program) (w : World) (K : PySem.W.Frag) (mg : Str → Option Value) (base : Heap) (CX : CXT) (k : Nat) (x : Str) (ps : List Str) (dv : V) (sp : Sp) : Prop where
  ex : ∃ f fd ds, mg x = some (.ref f) ∧ PySem.W.keepIn K (.ref f) = true ∧ Binds K fd ps [] ∧ Vals [dv] ds ∧ Binds K fd ps ds ∧ FnOk P w K mg base CX k f fd ps sp
section
variable {P : Program} {w : World} {K : PySem.W.Frag} {mg : Str → Option Value} {base : Heap} {CX : CXT} {x : Str} {st : Stmt} {N ps : List Str} {k : Nat} {dv : V} {sp : Sp}
theorem CalD.full (M : CalD P w K mg base CX k x ps dv sp) : Cal P w K mg base CX k x ps sp := by
  obtain ⟨f, fd, ds, g, kp, b, _, _, F⟩ := M.ex
  exact ⟨f, fd, g, kp, b, F⟩
theorem SrcD.of (S : SrcD K mg x st dv) (n : Nat) (hn : n + 1 = ps.length) (b1 : BindD x x st ps (n + 1) 1) (b0 : BindD x x st ps n 0) (ok : ∀ {f fd}, FunD K x x (defArgs st) (defBody st) (defScope st) [dv] [] f fd → FnOk P w K mg base CX k f fd ps sp) : CalD P w K mg base CX k x ps dv sp := by
  obtain ⟨f, fd, g, F⟩ := S
  obtain ⟨ds1, v1, B1⟩ := F.binds1 (ps := ps) (n + 1) 1 (by simp) (by simpa using hn) b1
  obtain ⟨ds0, v0, B0⟩ := F.binds1 (ps := ps) n 0 (by simp) (by simpa using hn) b0
  have e : ds1 = [] := by
    cases v1
    rfl
  subst e
  exact ⟨f, fd, ds0, g, F.kp, B1, v0, B0, ok F⟩
end
section
variable {X : Cx} {CX : CXT} {E : XK} {k : Nat} {x : Str} {ps : List Str} {dv : V} {sp : Sp} {e : Expr} {es : List Expr} {t : TA} {p pos : Pos}
/-- f(e, ..), the last one by its default -/
theorem pe_calD (C : CalD X.prog X.w X.K X.mg X.base CX k x ps dv sp) (hr : Room k X.A) (hx : Passes CX X E) (ha : PA X (e :: es) t) (hg : Gl X x := by rfl) (hdb : (x == ("__debug__" : Str)) = false := by decide)
    (hs : (e :: es).all nostar = true := by rfl) : PE X (.Call (.Name x p) (e :: es) [] pos) (tCall sp [dv] E t) := by
  obtain ⟨f, fd, ds, g, kp, _, vd, b, F⟩ := C.ex
  simp only [List.all_cons, Bool.and_eq_true] at hs
  exact pe_call F hr hg g kp b vd hx ha hdb (star_ok hs.1) (back_ok hs.2)
end
/-! ### l.count(z) of a list of texts -/
def eqz (k : Str) (v : Value) : Bool := match v with
  | .str z _ => z.cps.toList == k.cps.toList
  | _ => false
theorem eqz_gives {k : Str} {t : Tok} : ∀ {us : List Value} {ns : List Str}, StrsAre us ns → ∀ y ∈ us, MeetsSeq.EqGives y (.str k t) (eqz k y)
  | _, _, .nil => fun y hy => by cases hy
  | _, _, .cons n t' h => fun y hy => by
    rcases List.mem_cons.mp hy with e | e
    · rw [e]
      exact SeqRoads2.EqGives.str n k t' t
    · exact eqz_gives h y e
theorem cps_beq (a b : Str) : (a.cps.toList == b.cps.toList) = (a == b) := by
  by_cases e : a = b
  · subst e
    simp
  · have h2 : ¬ a.cps.toList = b.cps.toList := fun h => e (by
      cases a with
      | mk x => cases b with
        | mk y => exact congrArg PySem.Str.mk (Array.toList_inj.mp h))
    rw [beq_eq_false_iff_ne.mpr e, beq_eq_false_iff_ne.mpr h2]
theorem eqz_count {k : Str} : ∀ {us : List Value} {ns : List Str}, StrsAre us ns → us.countP (eqz k) = ns.count k
  | _, _, .nil => rfl
  | _, _, .cons n t h => by
    have ih := eqz_count (k := k) h
    rw [List.countP_cons, List.count_cons, ih]
    show _ + (if (n.cps.toList == k.cps.toList) = true then 1 else 0) = _
    rw [cps_beq]
def rCntS : V → List V → Hp → VK → Prop := fun x xs H Q => ∃ (p : Addr) (z : Str), x = .ref p ∧ xs = [.str z] ∧ ∃ l : List Str, H p = some (.lst (ms l)) ∧ Q (.int (l.count z : Nat)) H
section
variable {X : Cx}
theorem cnt_L : MtR X "list.count" rCntS := by
  intro pins s σ H x xs v us Q I rx rxs h
  obtain ⟨p, k, rfl, rfl, ns, hs, q⟩ := h
  cases rx
  obtain ⟨u, rfl, ru⟩ := rxs.one
  obtain ⟨t, rfl⟩ := ru
  obtain ⟨its, rv, ⟨⟨cls, dd, data, sl⟩, n, ho, hc, hdn, hd⟩, hlen⟩ := I.list (xs := ms ns) (.inl (.inl hs))
  simp only at hc hd
  subst hc hd
  have hi := strs_of_vals rv
  refine call_meets PySem.F.slot_list_count ⟨_, ho, rfl⟩ PySem.F.entry_list_count (PySem.F.args_list_count_2 _ _)
    (SeqAt.list_countAt p its.toArray n dd sl (.str k t) (eqz k)) ⟨ho, fun y hy => (eqz_gives hi y (by simpa using hy)).at _ _, ?_⟩
  have ec : its.toArray.toList.countP (eqz k) = ns.count k := eqz_count hi
  refine ⟨.int (ns.count k : Nat), H, I.tok _, ⟨s.toks, ?_⟩, q⟩
  show Value.int ((its.toArray.toList.countP (eqz k) : Nat) : Int) s.toks = Value.int ((ns.count k : Nat) : Int) s.toks
  rw [ec]
end
theorem putNew {H H1 : Hp} {D : Addr} {o : HO} (x : Same H H1) (hD : H D = none) : Same H (upd H1 D o) := fun a o' h => by
  rw [upd_ne (ne_of_none h hD)]
  exact x a o' h
/-! ### list comprehensions over what stays: item i gives F i, one or none -/
def LcP (H1 : Hp) (D : Addr) (F : Nat → List V) (i : Nat) (H : Hp) : Prop := Same H1 H ∧ H D = some (.lst ((List.range i).map F).flatten)
section
variable {H1 H H4 : Hp} {D : Addr} {F : Nat → List V} {i : Nat} {y : V}
theorem flat_len1 (hF : ∀ i, (F i).length ≤ 1) : ∀ i, ((List.range i).map F).flatten.length ≤ i
  | 0 => Nat.le_refl _
  | i + 1 => by
    rw [List.range_succ, List.map_append, List.flatten_append, List.length_append]
    have h1 := flat_len1 hF i
    have h2 := hF i
    have h3 : (List.map F [i]).flatten.length = (F i).length := by
      rw [List.map_cons, List.map_nil, List.flatten_cons, List.flatten_nil, List.append_nil]
    rw [h3]
    omega
theorem flat_succ : ((List.range (i + 1)).map F).flatten = ((List.range i).map F).flatten ++ F i := by
  rw [List.range_succ, List.map_append, List.flatten_append]
  simp
theorem LcP.zero (nD : H1 D = none) : LcP H1 D F 0 (upd H1 D (.lst [])) := ⟨same_new nD, upd_same⟩
theorem LcP.put (h : LcP H1 D F i H) (nD : H1 D = none) (hF : ∀ i, (F i).length ≤ 1) (hi : i < 100000) (s : Same H H4) (e : F i = [y]) : ∃ acc, H4 D = some (.lst acc) ∧ acc.length < sizeLine ∧ LcP H1 D F (i + 1) (upd H4 D (.lst (acc ++ [y]))) :=
  ⟨_, s _ _ h.2, Nat.lt_of_le_of_lt (flat_len1 hF i) (Nat.lt_of_lt_of_le hi (by decide)), putNew (h.1.trans s) nD, by rw [upd_same, flat_succ, e]⟩
theorem LcP.skip (h : LcP H1 D F i H) (s : Same H H4) (e : F i = []) : LcP H1 D F (i + 1) H4 := ⟨h.1.trans s, by rw [s _ _ h.2, flat_succ, e, List.append_nil]⟩
end
section
variable {K : PySem.W.Frag} {a : Addr} {xs : List V} {g : TG} {tt : TT} {te : TE} {vs : List Nat} {σ : L2.St}
theorem lcL {H1 : Hp} {D : Addr} {Qd : Hp → Prop} (F : Nat → List V) (nD : H1 D = none) (hq : H1 a = some (.lst xs))
    (hs : ∀ i x H, xs[i]? = some x → LcP H1 D F i H → g x (wipe σ vs) H fun σ2 H2 => wipe σ2 vs = wipe σ vs ∧ tt σ2 H2 fun b H3 =>
      if b = true then te σ2 H3 fun y H4 => ∃ acc, H4 D = some (.lst acc) ∧ acc.length < sizeLine ∧ LcP H1 D F (i + 1) (upd H4 D (.lst (acc ++ [y]))) else LcP H1 D F (i + 1) H3) (hd : ∀ H, Same H1 H → H D = some (.lst ((List.range xs.length).map F).flatten) → Qd H) :
    ∃ W : Nat → Nat → Hp → Prop, (∃ m, W 0 m (upd H1 D (.lst []))) ∧ ∀ i m H, W i m H →
      ((Itl K a).stop i H ∧ Qd H) ∨ ((Itl K a).go i H ∧ ∃ Nx : Hp → Prop, (∀ H', Nx H' → ∃ m', m' < m ∧ W (i + 1) m' H') ∧ ∀ x H', (Itl K a).yld i H x H' → g x (wipe σ vs) H' fun σ2 H2 => wipe σ2 vs = wipe σ vs ∧ tt σ2 H2 fun b H3 =>
        if b = true then te σ2 H3 fun y H4 => ∃ acc, H4 D = some (.lst acc) ∧ acc.length < sizeLine ∧ Nx (upd H4 D (.lst (acc ++ [y]))) else Nx H3) :=
  lc_list (LcP H1 D F) (LcP.zero nD) (fun i H _ h => .inl (.inl (h.1 _ _ hq))) hs (fun H h => hd H h.1 h.2)
theorem lcT {H1 : Hp} {D : Addr} {Qd : Hp → Prop} (F : Nat → List V) (nD : H1 D = none) (hq : ∀ H, Same H1 H → SqT K H a xs)
    (hs : ∀ i x H, xs[i]? = some x → LcP H1 D F i H → g x (wipe σ vs) H fun σ2 H2 => wipe σ2 vs = wipe σ vs ∧ tt σ2 H2 fun b H3 =>
      if b = true then te σ2 H3 fun y H4 => ∃ acc, H4 D = some (.lst acc) ∧ acc.length < sizeLine ∧ LcP H1 D F (i + 1) (upd H4 D (.lst (acc ++ [y]))) else LcP H1 D F (i + 1) H3) (hd : ∀ H, Same H1 H → H D = some (.lst ((List.range xs.length).map F).flatten) → Qd H) :
    ∃ W : Nat → Nat → Hp → Prop, (∃ m, W 0 m (upd H1 D (.lst []))) ∧ ∀ i m H, W i m H →
      ((Itt K a).stop i H ∧ Qd H) ∨ ((Itt K a).go i H ∧ ∃ Nx : Hp → Prop, (∀ H', Nx H' → ∃ m', m' < m ∧ W (i + 1) m' H') ∧ ∀ x H', (Itt K a).yld i H x H' → g x (wipe σ vs) H' fun σ2 H2 => wipe σ2 vs = wipe σ vs ∧ tt σ2 H2 fun b H3 =>
        if b = true then te σ2 H3 fun y H4 => ∃ acc, H4 D = some (.lst acc) ∧ acc.length < sizeLine ∧ Nx (upd H4 D (.lst (acc ++ [y]))) else Nx H3) :=
  lc_tup (LcP H1 D F) (LcP.zero nD) (fun i H _ h => hq H h.1) hs (fun H h => hd H h.1 h.2)
/-- [.. for x in t], t a name of a list or a tuple -/
theorem lcQ {H : Hp} {Q : VK} {j : Nat} (F : Nat → List V) (hv : σ[j]? = some (some (.ref a))) (hq : Sq H a xs)
    (hs : ∀ D, H D = none → ∀ i x H', xs[i]? = some x → LcP H D F i H' → g x (wipe σ vs) H' fun σ2 H2 => wipe σ2 vs = wipe σ vs ∧ tt σ2 H2 fun b H3 =>
      if b = true then te σ2 H3 fun y H4 => ∃ acc, H4 D = some (.lst acc) ∧ acc.length < sizeLine ∧ LcP H D F (i + 1) (upd H4 D (.lst (acc ++ [y]))) else LcP H D F (i + 1) H3)
    (hd : ∀ D H', H D = none → Same H H' → H' D = some (.lst ((List.range xs.length).map F).flatten) → Q (.ref D) H') : tLc (iQ K (tVar j)) g tt te vs σ H Q := by
  rcases hq with hq | hq
  · exact .inl ⟨_, hv, a, rfl, ⟨_, .inl (.inl hq)⟩, fun D nD => lcL F nD hq (hs D nD) (fun H' => hd D H' nD)⟩
  · exact .inr ⟨_, hv, a, rfl, ⟨_, .inl (.inl hq)⟩, fun D nD => lcT F nD (fun H' s => .inl (.inl (s _ _ hq))) (hs D nD) (fun H' => hd D H' nD)⟩
end
/-- a loop over a list or tuple that was there before (at Hb) and stays -/
theorem forQ2 {K : PySem.W.Frag} {a : Addr} {xs : List V} {j : Nat} {g : TG} {tb : TS} {D : Ends} {σ : L2.St} {H Hb : Hp} (hv : σ[j]? = some (some (.ref a))) (hq : Sq Hb a xs) (Pv : Nat → L2.St → Hp → Prop) (h0 : Pv 0 σ H) (hS : ∀ i σ H', Pv i σ H' → Same Hb H')
    (hs : ∀ i x σ H, xs[i]? = some x → Pv i σ H → g x σ H fun σ2 H2 => tb { D with nx := Pv (i + 1), ct := Pv (i + 1), bk := D.nx } σ2 H2) (hd : ∀ σ H, Pv xs.length σ H → D.nx σ H) : tFor (iQ K (tVar j)) g tb D σ H := by
  rcases hq with hq | hq
  · exact .inl ⟨_, hv, a, rfl, ⟨_, .inl (.inl (hS _ _ _ h0 _ _ hq))⟩, for_list (K := K) (a := a) (xs := xs) Pv h0 (fun i σ H' _ p => .inl (.inl (hS i σ H' p _ _ hq))) hs hd⟩
  · exact .inr ⟨_, hv, a, rfl, ⟨_, .inl (.inl (hS _ _ _ h0 _ _ hq))⟩, for_tup (K := K) (a := a) (xs := xs) Pv h0 (fun i σ H' _ p => .inl (.inl (hS i σ H' p _ _ hq))) hs hd⟩
/-- o.m(e, ..) of a builtin, in a comprehension -/
theorem pe_bmK {X : Cx} {K : PySem.W.Frag} {T name id : String} {r : V → List V → Hp → VK → Prop} {o e : Expr} {es : List Expr} {to : TE} {t : TA} {apos cpos : Pos} (hK : X.K = K) (pa : PlainAttrs T) (slot : Slot T name id) (hty : typeOf (.builtin id) = pure (.type "method_descriptor")) (hm : MtR X id r) (ho : PE X o to) (ha : PA X (e :: es) t)
    (hbase : attributeBase o name X.env (eval o X.env) = eval o X.env := by rfl)
    (hfew : ((backTo cpos (starEach (e :: es) X.env)).all (fun x => !x.1) && (backToKw cpos (keywordEach [] X.env)).all (fun x => x.1.isSome)
      && decide ((e :: es).length + ([] : List Keyword).length + (if ([] : List Keyword).isEmpty then 0 else 1) < 30)) = true := by rfl)
    (hline : (apos.endLine == cpos.line) = true := by rfl) (hs : starEach (e :: es) X.env = (false, eval e X.env) :: starEach es X.env := by rfl) (hplain : (backTo cpos (starEach es X.env)).any (·.1) = false := by rfl) :
    PE X (.Call (.Attribute o name apos) (e :: es) [] cpos) (tBM K T r to t) := by
  subst hK
  exact pe_bm pa slot hty hm ho ha hbase hfew hline hs hplain
/-- list(a list or a tuple) -/
def rLstQ : List V → Hp → VK → Prop := fun vs H Q => ∃ p ys, vs = [.ref p] ∧ Sq H p ys ∧ ∀ l, H l = none → Q (.ref l) (upd H l (.lst ys))
theorem list_Q {X : Cx} : CallR X (.type "list") rLstQ := CallR.imp call_list_of fun xs H Q ⟨p, ys, e, h, q⟩ => ⟨p, ys, e, h.elim (fun h => .inl (.inl (.inl h))) (fun h => .inr (.inl (.inl h))), q⟩
end Fx
/-! Methods with one default, called by position, by name, without it; list(range(..)) -/
namespace Fx
open PySem PySem.Spec PyProof.Rows L2
abbrev BindK (x q : Str) (st : Stmt) (ps : List Str) (kw : Str) (n : Nat) : Prop := ∀ (T : Addr) (kV doc pm : Value) (an : Option Addr) (cdv ct : Value) (us its : List Value) (v : Value), us.length = n → its.length = 1 →
  ∃ k, bindArgs (PySem.W.fnOf x q (defArgs st) (defBody st) (defScope st) (.ref T) kV doc pm an cdv ct) ⟨us, [(kw, v)]⟩ = seqItems? (.ref T) >>= k ∧ k (some its.toArray) = pure (ps.zip (us ++ [v]))
def KwLast (K : PySem.W.Frag) (fd : FuncData) (ps : List Str) (kw : Str) : Prop := ∀ (s : Shared) (us : List Value) (v : Value), K.In s.heap → (us ++ [v]).length = ps.length → BindsTo s fd ⟨us, [(kw, v)]⟩ (ps.zip (us ++ [v]))
structure CalMD (P : Program) (w : World) (K : PySem.W.Frag) (mg : Str → Option Value) (base : Heap) (CX : CXT) (k : Nat) (C : Addr) (m : Str) (ps : List Str) (dv : V) (kw : Str) (sp : Sp) : Prop where
  ex : ∃ f fd ds, Meth K C m f ∧ Binds K fd ps [] ∧ Vals [dv] ds ∧ Binds K fd ps ds ∧ KwLast K fd ps kw ∧ FnOk P w K mg base CX k f fd ps sp
section
variable {P : Program} {w : World} {K : PySem.W.Frag} {mg : Str → Option Value} {base : Heap} {CX : CXT} {k : Nat} {C : Addr} {m : Str} {ps : List Str} {dv : V} {kw : Str} {sp : Sp}
theorem kwLast_of {x q : Str} {st : Stmt} {f : Addr} {fd : FuncData} (F : FunD K x q (defArgs st) (defBody st) (defScope st) [dv] [] f fd) (n : Nat) (hn : n + 1 = ps.length) (h : BindK x q st ps kw n) : KwLast K fd ps kw := by
  obtain ⟨oc, od, dV, kV, doc, pm, an, cdv, ct, osl, rfl, lk, hcd, hD, hK⟩ := F.ex
  rcases hD with ⟨e, _⟩ | ⟨_, T, o, its, m, rfl, lT, oT, rT⟩
  · exact absurd e (by simp)
  · intro s us v X hlen
    have l1 : its.length = 1 := rT.length.symm
    have l2 : us.length = n := by
      rw [List.length_append, List.length_singleton] at hlen
      omega
    obtain ⟨k, e1, e2⟩ := h T kV doc pm an cdv ct us its v l2 l1
    refine BindsTo.of_looks fun M => ?_
    rw [e1]
    exact looks_items X lT oT (.of_pure e2)
theorem calMD_of {x q : Str} {st : Stmt} {f : Addr} {fd : FuncData} (F : FunD K x q (defArgs st) (defBody st) (defScope st) [dv] [] f fd) (M : Meth K C m f) (n : Nat) (hn : n + 1 = ps.length) (b1 : BindD x q st ps (n + 1) 1) (b0 : BindD x q st ps n 0) (bk : BindK x q st ps kw n) (ok : FnOk P w K mg base CX k f fd ps sp) : CalMD P w K mg base CX k C m ps dv kw sp := by
  obtain ⟨ds1, v1, B1⟩ := F.binds1 (ps := ps) (n + 1) 1 (by simp) (by simpa using hn) b1
  obtain ⟨ds0, v0, B0⟩ := F.binds1 (ps := ps) n 0 (by simp) (by simpa using hn) b0
  have e : ds1 = [] := by
    cases v1
    rfl
  subst e
  exact ⟨f, fd, ds0, M, B1, v0, B0, kwLast_of F n hn bk, ok⟩
theorem KwLast.to {fd : FuncData} (h : KwLast K fd ps kw) (b : Binds K fd ps []) : KBinds K fd ps [kw] (fun us ws => us ++ ws.take 1) (fun vs zs => vs ++ zs.take 1) where
  to s us ws X hl := match ws, hl with
    | [], hl => by
      have e := b s us X (by simpa using hl)
      exact e
    | w :: r, hl => h s us w X hl
  rel r rz := r.append (rz.take 1)
end
section
variable {X : Cx} {k : Nat} {f C : Addr} {fd : FuncData} {ps : List Str} {sp : Sp} {x m kw : Str} {p pos apos : Pos} {e o : Expr} {es : List Expr} {kws : List Keyword} {ta : TE} {t tk : TA} {CX : CXT} {E : XK}
/-- o.m(e, .., kw = v) -/
def tMethK (C : Addr) (m : Str) (sp : Sp) (E : XK) (ta : TE) (t tk : TA) : TE := fun σ H Q => ta σ H fun x H1 => ∃ a dx fs, x = .ref a ∧ H1 a = some (.ins C dx fs) ∧ fs.lookup m = none ∧ t σ H1 fun vs H2 => tk σ H2 fun zs H3 => ∃ z, zs = [z] ∧ sp (x :: (vs ++ [z])) H3 Q E
theorem pe_methK {pl : Sem Bool} (he : PE X o ta) (c : Cls X.K C) (hm : Meth X.K C m f) (F : FnOk X.prog X.w X.K X.mg X.base CX k f fd ps sp) (hr : Room k X.A) (hb : Binds X.K fd ps []) (hl : KwLast X.K fd ps kw) (hx : Passes CX X E) (ha : PA X (e :: es) t) (hkw : PK X kws tk)
    (hall : (backToKw pos (keywordEach kws X.env)).all (·.1.isSome) = true := by rfl) (hks : (backToKw pos (keywordEach kws X.env)).filterMap (·.1) = [kw] := by rfl)
    (hst : starEach (e :: es) X.env = (false, eval e X.env) :: starEach es X.env := by rfl) (hpl : ((backTo pos (starEach (e :: es) X.env)).any (·.1) || (backToKw pos (keywordEach kws X.env)).any (·.1.isNone)) = false := by rfl)
    (ht : eval (.Call (.Attribute o m apos) (e :: es) kws pos) X.env = (do
      let ov ← eval o X.env
      standAt apos.atName
      let (f, first) ← holding [ov] (getMethod ov m pl)
      callWith pos f first (backTo pos (starEach (e :: es) X.env)) (backToKw pos (keywordEach kws X.env))) := by rfl) :
    PE X (.Call (.Attribute o m apos) (e :: es) kws pos) (tMethK C m sp E ta t tk) := by
  refine ⟨fun pins s σ H Q I h => ?_⟩
  refine PySem.W.methodCall_KW (pl := pl) (thn (he.run pins s σ H _ I h) fun u s1 ⟨x, H1, I1, rx, a, dx, fs, ex, ea, l, q⟩ => ?_) ht
  subst ex
  obtain rfl : u = Value.ref a := rx
  refine getmeth_ok I1 ea c hm l ?_
  refine PySem.W.callWith_KW (first := [.ref a]) (h₀ := X.base) I.ok.mod.kin hm.kp hall (thn (ha.run pos pins s1 σ H1 _ I1 q) fun us s2 ⟨vs, H2, I2, r, q2⟩ => ?_) hpl hst
  refine thn (hkw.run pos pins s2 σ H2 _ I2 q2) fun ws s3 ⟨zs, H3, I3, rz, z, ez, q3⟩ => ⟨I3.kIn, ?_⟩
  rw [hks]
  subst ez
  exact run_fnk (us := .ref a :: us) (vs := .ref a :: vs) F hr (hl.to hb) hx I3 (.cons rfl r) rz q3
end
/-- a while by a count that falls; the test's ways stay folded -/
theorem whileF {c : TT} {tb : TS} {D : Ends} {σ : L2.St} {H : Hp} (W : Nat → L2.St → Hp → Prop) (m : Nat) (h0 : W m σ H)
    (hs : ∀ m σ H, W m σ H → ∀ A B : Hp → Prop, (∀ H1, tb { D with nx := fun σ' H' => ∃ m', m' < m ∧ W m' σ' H', ct := fun σ' H' => ∃ m', m' < m ∧ W m' σ' H', bk := D.nx } σ H1 → A H1) → (∀ H1, D.nx σ H1 → B H1) → c σ H fun b H1 => if b = true then A H1 else B H1) : tWhile c tb D σ H := by
  refine ⟨W, ⟨m, h0⟩, fun m σ H p => ?_⟩
  exact hs m σ H p _ _ (fun H1 t => ⟨fun σ' H' => ∃ m', m' < m ∧ W m' σ' H', fun σ' H' k => k, t⟩) (fun H1 x => x)
end Fx
namespace K09
open PySem PySem.Spec PyProof.Rows L2 Fx

def top (i : Nat) : Stmt := PySem.Challenge.pw_fablemill_k09_spoilt_packings.main.body.getD i (.Pass ⟨0, 0, 0, 0⟩)
abbrev s_Lot_MU_initU : Stmt := inClass (top 22) 0
abbrev N_Lot_MU_initU : List Str := ["self", "words", "word"]
theorem sc_Lot_MU_initU : FnScope N_Lot_MU_initU ["self", "words"] (defScope s_Lot_MU_initU) := ⟨rfl, rfl, rfl, by decide +kernel, rfl, by decide +kernel, by decide +kernel⟩
theorem bf_Lot_MU_initU : BindD "__init__" "Lot.__init__" s_Lot_MU_initU ["self", "words"] 2 1 := fun _ _ _ _ _ _ _ us its h1 h2 => match us, its, h1, h2 with | [_, _], [_], _, _ => ⟨_, rfl, rfl⟩
theorem bd_Lot_MU_initU : BindD "__init__" "Lot.__init__" s_Lot_MU_initU ["self", "words"] 1 0 := fun _ _ _ _ _ _ _ us its h1 h2 => match us, its, h1, h2 with | [_], [_], _, _ => ⟨_, rfl, rfl⟩
abbrev s_Lot_M_half_bytes : Stmt := inClass (top 22) 9
abbrev N_Lot_M_half_bytes : List Str := ["self", "text", "row", "piece"]
theorem sc_Lot_M_half_bytes : FnScope N_Lot_M_half_bytes ["self", "text"] (defScope s_Lot_M_half_bytes) := ⟨rfl, rfl, rfl, by decide +kernel, rfl, by decide +kernel, by decide +kernel⟩
theorem bn_Lot_M_half_bytes : BindQ "half_bytes" "Lot.half_bytes" s_Lot_M_half_bytes ["self", "text"] := fun _ _ _ _ _ _ us hl => match us, hl with | [_, _], _ => rfl
abbrev s_Lot_M_read_on : Stmt := inClass (top 22) 12
abbrev N_Lot_M_read_on : List Str := ["self", "row", "start", "text", "place", "code", "first", "second", "sign"]
theorem sc_Lot_M_read_on : FnScope N_Lot_M_read_on ["self", "row", "start"] (defScope s_Lot_M_read_on) := ⟨rfl, rfl, rfl, by decide +kernel, rfl, by decide +kernel, by decide +kernel⟩
theorem bn_Lot_M_read_on : BindQ "read_on" "Lot.read_on" s_Lot_M_read_on ["self", "row", "start"] := fun _ _ _ _ _ _ us hl => match us, hl with | [_, _, _], _ => rfl
abbrev s_Lot_M_back : Stmt := inClass (top 22) 13
abbrev N_Lot_M_back : List Str := ["self", "row", "start", "text", "many", "behind"]
theorem sc_Lot_M_back : FnScope N_Lot_M_back ["self", "row", "start"] (defScope s_Lot_M_back) := ⟨rfl, rfl, rfl, by decide +kernel, rfl, by decide +kernel, by decide +kernel⟩
theorem bf_Lot_M_back : BindD "back" "Lot.back" s_Lot_M_back ["self", "row", "start"] 3 1 := fun _ _ _ _ _ _ _ us its h1 h2 => match us, its, h1, h2 with | [_, _, _], [_], _, _ => ⟨_, rfl, rfl⟩
theorem bd_Lot_M_back : BindD "back" "Lot.back" s_Lot_M_back ["self", "row", "start"] 2 0 := fun _ _ _ _ _ _ _ us its h1 h2 => match us, its, h1, h2 with | [_, _], [_], _, _ => ⟨_, rfl, rfl⟩
theorem bk_Lot_M_back : BindK "back" "Lot.back" s_Lot_M_back ["self", "row", "start"] "start" 2 := fun _ _ _ _ _ _ _ us its v h1 h2 => match us, its, h1, h2 with | [_, _], [_], _, _ => ⟨_, rfl, rfl⟩
abbrev s__wall : Stmt := top 0
abbrev N__wall : List Str := ["k"]
theorem sc__wall : FnScope N__wall ["k"] (defScope s__wall) := ⟨rfl, rfl, rfl, by decide +kernel, rfl, by decide +kernel, by decide +kernel⟩
theorem bn__wall : BindP "_wall" s__wall ["k"] := fun _ _ _ _ _ _ us hl => match us, hl with | [_], _ => rfl
abbrev s_sign_of : Stmt := top 13
abbrev N_sign_of : List Str := ["code"]
theorem sc_sign_of : FnScope N_sign_of ["code"] (defScope s_sign_of) := ⟨rfl, rfl, rfl, by decide +kernel, rfl, by decide +kernel, by decide +kernel⟩
theorem bn_sign_of : BindP "sign_of" s_sign_of ["code"] := fun _ _ _ _ _ _ us hl => match us, hl with | [_], _ => rfl
abbrev s_check_text : Stmt := top 14
abbrev N_check_text : List Str := ["text", "place", "sign"]
theorem sc_check_text : FnScope N_check_text ["text"] (defScope s_check_text) := ⟨rfl, rfl, rfl, by decide +kernel, rfl, by decide +kernel, by decide +kernel⟩
theorem bn_check_text : BindP "check_text" s_check_text ["text"] := fun _ _ _ _ _ _ us hl => match us, hl with | [_], _ => rfl
abbrev s_is_text : Stmt := top 15
abbrev N_is_text : List Str := ["thing", "sign"]
theorem sc_is_text : FnScope N_is_text ["thing"] (defScope s_is_text) := ⟨rfl, rfl, rfl, by decide +kernel, rfl, by decide +kernel, by decide +kernel⟩
theorem bn_is_text : BindP "is_text" s_is_text ["thing"] := fun _ _ _ _ _ _ us hl => match us, hl with | [_], _ => rfl
abbrev s_codes : Stmt := top 16
abbrev N_codes : List Str := ["sign", "place"]
theorem sc_codes : FnScope N_codes ["sign"] (defScope s_codes) := ⟨rfl, rfl, rfl, by decide +kernel, rfl, by decide +kernel, by decide +kernel⟩
theorem bn_codes : BindP "codes" s_codes ["sign"] := fun _ _ _ _ _ _ us hl => match us, hl with | [_], _ => rfl
abbrev s_plain_codes : Stmt := top 17
abbrev N_plain_codes : List Str := ["text", "row", "sign"]
theorem sc_plain_codes : FnScope N_plain_codes ["text"] (defScope s_plain_codes) := ⟨rfl, rfl, rfl, by decide +kernel, rfl, by decide +kernel, by decide +kernel⟩
theorem bn_plain_codes : BindP "plain_codes" s_plain_codes ["text"] := fun _ _ _ _ _ _ us hl => match us, hl with | [_], _ => rfl
abbrev s_pieces : Stmt := top 18
abbrev N_pieces : List Str := ["text", "row", "run", "sign"]
theorem sc_pieces : FnScope N_pieces ["text"] (defScope s_pieces) := ⟨rfl, rfl, rfl, by decide +kernel, rfl, by decide +kernel, by decide +kernel⟩
theorem bn_pieces : BindP "pieces" s_pieces ["text"] := fun _ _ _ _ _ _ us hl => match us, hl with | [_], _ => rfl
abbrev s_pairs_of : Stmt := top 19
abbrev N_pairs_of : List Str := ["half_bytes", "row", "place"]
theorem sc_pairs_of : FnScope N_pairs_of ["half_bytes"] (defScope s_pairs_of) := ⟨rfl, rfl, rfl, by decide +kernel, rfl, by decide +kernel, by decide +kernel⟩
theorem bn_pairs_of : BindP "pairs_of" s_pairs_of ["half_bytes"] := fun _ _ _ _ _ _ us hl => match us, hl with | [_], _ => rfl
abbrev s_is_short_word : Stmt := top 20
abbrev N_is_short_word : List Str := ["thing", "sign"]
theorem sc_is_short_word : FnScope N_is_short_word ["thing"] (defScope s_is_short_word) := ⟨rfl, rfl, rfl, by decide +kernel, rfl, by decide +kernel, by decide +kernel⟩
theorem bn_is_short_word : BindP "is_short_word" s_is_short_word ["thing"] := fun _ _ _ _ _ _ us hl => match us, hl with | [_], _ => rfl
abbrev s_half_at : Stmt := top 21
abbrev N_half_at : List Str := ["row", "start", "place", "at"]
theorem sc_half_at : FnScope N_half_at ["row", "start", "place"] (defScope s_half_at) := ⟨rfl, rfl, rfl, by decide +kernel, rfl, by decide +kernel, by decide +kernel⟩
theorem bn_half_at : BindP "half_at" s_half_at ["row", "start", "place"] := fun _ _ _ _ _ _ us hl => match us, hl with | [_, _, _], _ => rfl
abbrev s__law_bag : Stmt := top 24
abbrev N__law_bag : List Str := ["_law_script", "_law_mixed", "_law_cell"]
theorem sc__law_bag : FnScope N__law_bag ["_law_script"] (defScope s__law_bag) := ⟨rfl, rfl, rfl, by decide +kernel, rfl, by decide +kernel, by decide +kernel⟩
theorem bn__law_bag : BindP "_law_bag" s__law_bag ["_law_script"] := fun _ _ _ _ _ _ us hl => match us, hl with | [_], _ => rfl
abbrev s__law_pick : Stmt := top 25
abbrev N__law_pick : List Str := ["_law_bag_here", "_law_many", "_law_number", "_law_cell"]
theorem sc__law_pick : FnScope N__law_pick ["_law_bag_here", "_law_many"] (defScope s__law_pick) := ⟨rfl, rfl, rfl, by decide +kernel, rfl, by decide +kernel, by decide +kernel⟩
theorem bn__law_pick : BindP "_law_pick" s__law_pick ["_law_bag_here", "_law_many"] := fun _ _ _ _ _ _ us hl => match us, hl with | [_, _], _ => rfl
abbrev s__law_choice : Stmt := top 26
abbrev N__law_choice : List Str := ["_law_bag_here", "_law_things"]
theorem sc__law_choice : FnScope N__law_choice ["_law_bag_here", "_law_things"] (defScope s__law_choice) := ⟨rfl, rfl, rfl, by decide +kernel, rfl, by decide +kernel, by decide +kernel⟩
theorem bn__law_choice : BindP "_law_choice" s__law_choice ["_law_bag_here", "_law_things"] := fun _ _ _ _ _ _ us hl => match us, hl with | [_, _], _ => rfl
abbrev s__law_integer : Stmt := top 27
abbrev N__law_integer : List Str := ["_law_thing"]
theorem sc__law_integer : FnScope N__law_integer ["_law_thing"] (defScope s__law_integer) := ⟨rfl, rfl, rfl, by decide +kernel, rfl, by decide +kernel, by decide +kernel⟩
theorem bn__law_integer : BindP "_law_integer" s__law_integer ["_law_thing"] := fun _ _ _ _ _ _ us hl => match us, hl with | [_], _ => rfl
abbrev s__law_signs : Stmt := top 28
abbrev N__law_signs : List Str := []
theorem sc__law_signs : FnScope N__law_signs [] (defScope s__law_signs) := ⟨rfl, rfl, rfl, by decide +kernel, rfl, by decide +kernel, by decide +kernel⟩
theorem bn__law_signs : BindP "_law_signs" s__law_signs [] := fun _ _ _ _ _ _ us hl => match us, hl with | [], _ => rfl
abbrev s__law_codes : Stmt := top 29
abbrev N__law_codes : List Str := ["_law_sign_here", "_law_rows", "_law_k", "_law_place"]
theorem sc__law_codes : FnScope N__law_codes ["_law_sign_here"] (defScope s__law_codes) := ⟨rfl, rfl, rfl, by decide +kernel, rfl, by decide +kernel, by decide +kernel⟩
theorem bn__law_codes : BindP "_law_codes" s__law_codes ["_law_sign_here"] := fun _ _ _ _ _ _ us hl => match us, hl with | [_], _ => rfl
abbrev s__law_sign : Stmt := top 30
abbrev N__law_sign : List Str := ["_law_bag_here"]
theorem sc__law_sign : FnScope N__law_sign ["_law_bag_here"] (defScope s__law_sign) := ⟨rfl, rfl, rfl, by decide +kernel, rfl, by decide +kernel, by decide +kernel⟩
theorem bn__law_sign : BindP "_law_sign" s__law_sign ["_law_bag_here"] := fun _ _ _ _ _ _ us hl => match us, hl with | [_], _ => rfl
abbrev s__law_word : Stmt := top 31
abbrev N__law_word : List Str := ["_law_bag_here", "_law_letters", "_law_at", "_law_size", "_law_step"]
theorem sc__law_word : FnScope N__law_word ["_law_bag_here"] (defScope s__law_word) := ⟨rfl, rfl, rfl, by decide +kernel, rfl, by decide +kernel, by decide +kernel⟩
theorem bn__law_word : BindP "_law_word" s__law_word ["_law_bag_here"] := fun _ _ _ _ _ _ us hl => match us, hl with | [_], _ => rfl
abbrev s__law_distinct : Stmt := top 32
abbrev N__law_distinct : List Str := ["_law_words", "_law_found", "_law_word_here"]
theorem sc__law_distinct : FnScope N__law_distinct ["_law_words"] (defScope s__law_distinct) := ⟨rfl, rfl, rfl, by decide +kernel, rfl, by decide +kernel, by decide +kernel⟩
theorem bn__law_distinct : BindP "_law_distinct" s__law_distinct ["_law_words"] := fun _ _ _ _ _ _ us hl => match us, hl with | [_], _ => rfl
abbrev s__law_pieces : Stmt := top 33
abbrev N__law_pieces : List Str := ["_law_text", "_law_pieces_here", "_law_sign_here"]
theorem sc__law_pieces : FnScope N__law_pieces ["_law_text"] (defScope s__law_pieces) := ⟨rfl, rfl, rfl, by decide +kernel, rfl, by decide +kernel, by decide +kernel⟩
theorem bn__law_pieces : BindP "_law_pieces" s__law_pieces ["_law_text"] := fun _ _ _ _ _ _ us hl => match us, hl with | [_], _ => rfl
abbrev s__law_halves : Stmt := top 34
abbrev N__law_halves : List Str := ["_law_words", "_law_text", "_law_row_here", "_law_piece", "_law_sign_here"]
theorem sc__law_halves : FnScope N__law_halves ["_law_words", "_law_text"] (defScope s__law_halves) := ⟨rfl, rfl, rfl, by decide +kernel, rfl, by decide +kernel, by decide +kernel⟩
theorem bn__law_halves : BindP "_law_halves" s__law_halves ["_law_words", "_law_text"] := fun _ _ _ _ _ _ us hl => match us, hl with | [_, _], _ => rfl
abbrev s__law_bytes : Stmt := top 35
abbrev N__law_bytes : List Str := ["_law_halves_here", "_law_row_here", "_law_k"]
theorem sc__law_bytes : FnScope N__law_bytes ["_law_halves_here"] (defScope s__law_bytes) := ⟨rfl, rfl, rfl, by decide +kernel, rfl, by decide +kernel, by decide +kernel⟩
theorem bn__law_bytes : BindP "_law_bytes" s__law_bytes ["_law_halves_here"] := fun _ _ _ _ _ _ us hl => match us, hl with | [_], _ => rfl
abbrev s__law_next : Stmt := top 36
abbrev N__law_next : List Str := ["_law_words", "_law_halves_here", "_law_place", "_law_rest", "_law_others", "_law_found", "_law_sign_here"]
theorem sc__law_next : FnScope N__law_next ["_law_words", "_law_halves_here", "_law_place"] (defScope s__law_next) := ⟨rfl, rfl, rfl, by decide +kernel, rfl, by decide +kernel, by decide +kernel⟩
theorem bn__law_next : BindP "_law_next" s__law_next ["_law_words", "_law_halves_here", "_law_place"] := fun _ _ _ _ _ _ us hl => match us, hl with | [_, _, _], _ => rfl
abbrev s__law_read : Stmt := top 37
abbrev N__law_read : List Str := ["_law_words", "_law_row_here", "_law_at", "_law_halves_here", "_law_byte", "_law_text", "_law_place", "_law_step", "_law_piece", "_law_behind"]
theorem sc__law_read : FnScope N__law_read ["_law_words", "_law_row_here", "_law_at"] (defScope s__law_read) := ⟨rfl, rfl, rfl, by decide +kernel, rfl, by decide +kernel, by decide +kernel⟩
theorem bn__law_read : BindP "_law_read" s__law_read ["_law_words", "_law_row_here", "_law_at"] := fun _ _ _ _ _ _ us hl => match us, hl with | [_, _, _], _ => rfl
abbrev s__law_lot_words : Stmt := top 38
abbrev N__law_lot_words : List Str := ["_law_bag_here", "_law_many", "_law_step"]
theorem sc__law_lot_words : FnScope N__law_lot_words ["_law_bag_here"] (defScope s__law_lot_words) := ⟨rfl, rfl, rfl, by decide +kernel, rfl, by decide +kernel, by decide +kernel⟩
theorem bn__law_lot_words : BindP "_law_lot_words" s__law_lot_words ["_law_bag_here"] := fun _ _ _ _ _ _ us hl => match us, hl with | [_], _ => rfl
abbrev s__law_item : Stmt := top 39
abbrev N__law_item : List Str := ["_law_bag_here", "_law_words", "_law_wild", "_law_kind", "_law_row_here", "_law_sign_here"]
theorem sc__law_item : FnScope N__law_item ["_law_bag_here", "_law_words", "_law_wild"] (defScope s__law_item) := ⟨rfl, rfl, rfl, by decide +kernel, rfl, by decide +kernel, by decide +kernel⟩
theorem bn__law_item : BindP "_law_item" s__law_item ["_law_bag_here", "_law_words", "_law_wild"] := fun _ _ _ _ _ _ us hl => match us, hl with | [_, _, _], _ => rfl
abbrev s__law_row : Stmt := top 40
abbrev N__law_row : List Str := ["_law_bag_here", "_law_words", "_law_halves_here", "_law_wild", "_law_step", "_law_told", "_law_sign_here", "_law_size"]
theorem sc__law_row : FnScope N__law_row ["_law_bag_here", "_law_words"] (defScope s__law_row) := ⟨rfl, rfl, rfl, by decide +kernel, rfl, by decide +kernel, by decide +kernel⟩
theorem bn__law_row : BindP "_law_row" s__law_row ["_law_bag_here", "_law_words"] := fun _ _ _ _ _ _ us hl => match us, hl with | [_, _], _ => rfl
abbrev s__law_spoilt : Stmt := top 41
abbrev N__law_spoilt : List Str := ["_law_bag_here", "_law_row_here", "_law_step", "_law_way", "_law_at"]
theorem sc__law_spoilt : FnScope N__law_spoilt ["_law_bag_here", "_law_row_here"] (defScope s__law_spoilt) := ⟨rfl, rfl, rfl, by decide +kernel, rfl, by decide +kernel, by decide +kernel⟩
theorem bn__law_spoilt : BindP "_law_spoilt" s__law_spoilt ["_law_bag_here", "_law_row_here"] := fun _ _ _ _ _ _ us hl => match us, hl with | [_, _], _ => rfl
abbrev s__law_ask_back : Stmt := top 42
abbrev N__law_ask_back : List Str := ["_law_lot", "_law_row_here", "_law_at", "_law_plainly"]
theorem sc__law_ask_back : FnScope N__law_ask_back ["_law_lot", "_law_row_here", "_law_at", "_law_plainly"] (defScope s__law_ask_back) := ⟨rfl, rfl, rfl, by decide +kernel, rfl, by decide +kernel, by decide +kernel⟩
theorem bn__law_ask_back : BindP "_law_ask_back" s__law_ask_back ["_law_lot", "_law_row_here", "_law_at", "_law_plainly"] := fun _ _ _ _ _ _ us hl => match us, hl with | [_, _, _, _], _ => rfl
abbrev s__law_back : Stmt := top 43
abbrev N__law_back : List Str := ["_law_lot", "_law_row_here", "_law_at", "_law_plainly", "_law_answer", "e"]
theorem sc__law_back : FnScope N__law_back ["_law_lot", "_law_row_here", "_law_at", "_law_plainly"] (defScope s__law_back) := ⟨rfl, rfl, rfl, by decide +kernel, rfl, by decide +kernel, by decide +kernel⟩
theorem bn__law_back : BindP "_law_back" s__law_back ["_law_lot", "_law_row_here", "_law_at", "_law_plainly"] := fun _ _ _ _ _ _ us hl => match us, hl with | [_, _, _, _], _ => rfl
abbrev s__law_agrees : Stmt := top 44
abbrev N__law_agrees : List Str := ["_law_lot", "_law_words", "_law_row_here", "_law_at", "_law_plainly", "_law_due", "_law_kept", "_law_told"]
theorem sc__law_agrees : FnScope N__law_agrees ["_law_lot", "_law_words", "_law_row_here", "_law_at", "_law_plainly"] (defScope s__law_agrees) := ⟨rfl, rfl, rfl, by decide +kernel, rfl, by decide +kernel, by decide +kernel⟩
theorem bn__law_agrees : BindP "_law_agrees" s__law_agrees ["_law_lot", "_law_words", "_law_row_here", "_law_at", "_law_plainly"] := fun _ _ _ _ _ _ us hl => match us, hl with | [_, _, _, _, _], _ => rfl
abbrev s_law : Stmt := top 45
abbrev N_law : List Str := ["_law_script", "_law_bag_here", "_law_words", "_law_lot", "_law_row_here", "_law_front", "_law_whole", "_law_places", "_law_at", "_law_step"]
theorem sc_law : FnScope N_law ["_law_script"] (defScope s_law) := ⟨rfl, rfl, rfl, by decide +kernel, rfl, by decide +kernel, by decide +kernel⟩
theorem bn_law : BindP "law" s_law ["_law_script"] := fun _ _ _ _ _ _ us hl => match us, hl with | [_], _ => rfl
structure Tx (P : Program) (K : PySem.W.Frag) (mg : Str → Option Value) : Prop where
  b_ValueError : mg "ValueError" = none
  b_all : mg "all" = none
  b_bool : mg "bool" = none
  b_int : mg "int" = none
  b_isinstance : mg "isinstance" = none
  b_len : mg "len" = none
  b_list : mg "list" = none
  b_max : mg "max" = none
  b_ord : mg "ord" = none
  b_range : mg "range" = none
  b_sorted : mg "sorted" = none
  b_str : mg "str" = none
  b_tuple : mg "tuple" = none
  b_super : mg "super" = none
  c_LETTERS : Cst mg "LETTERS" (.str "abcdefghijklmnopqrstuvwxyz")
  c_LONGEST : Cst mg "LONGEST" (.int 200)
  c_ROW1 : Cst mg "ROW1" (.str " etaonisrhld")
  c_ROW2 : Cst mg "ROW2" (.str "cumfpgwybvkxjqz.")
  c_ROW3 : Cst mg "ROW3" (.str "0123456789\n,'-!?")
  c_SIGNS : Cst mg "SIGNS" (.str " !\"#$\n&'()*+,-./0123456789:;<=>?@ABCDEFGHIJKLMNOPQRSTUVWXYZ[\\]^_`abcdefghijklmnopqrstuvwxyz{|}~")
  g_BadLot : mg "BadLot" = some (.ref (He.ga K "BadLot"))
  x_BadLot : XC K P "BadLot" "word" (He.ga K "BadLot")
  e_BadLot : ExcC K (He.ga K "BadLot")
  g_BadText : mg "BadText" = some (.ref (He.ga K "BadText"))
  x_BadText : XC K P "BadText" "place" (He.ga K "BadText")
  e_BadText : ExcC K (He.ga K "BadText")
  g_FableError : mg "FableError" = some (.ref (He.ga K "FableError"))
  g_Lot : mg "Lot" = some (.ref (He.ga K "Lot"))
  g_TooMany : mg "TooMany" = some (.ref (He.ga K "TooMany"))
  x_TooMany : XC K P "TooMany" "kind" (He.ga K "TooMany")
  e_TooMany : ExcC K (He.ga K "TooMany")
  cl_Lot : Cls K (He.ga K "Lot")
  n_Lot_words : NoAttr K (He.ga K "Lot") "words"
  k_BadText_VE : PySem.W.kitOne K (.ref (He.ga K "BadText")) (.type "ValueError") = some true
  k_BadText_BadText : PySem.W.kitOne K (.ref (He.ga K "BadText")) (.ref (He.ga K "BadText")) = some true
  k_BadText_BadLot : PySem.W.kitOne K (.ref (He.ga K "BadText")) (.ref (He.ga K "BadLot")) = some false
  k_BadText_TooMany : PySem.W.kitOne K (.ref (He.ga K "BadText")) (.ref (He.ga K "TooMany")) = some false
  m_BadText : PySem.W.exmOne K (.ref (He.ga K "BadText")) (.ref (He.ga K "FableError")) = some true
  t_dfl : tupI K (.ref (He.dflAt ("Lot", some "__init__") 0 K)) [] = true
theorem new_s {H H' : Hp} {p : Addr} {o : HO} (n : H p = none) (e : upd H p o = H') : Same H H' := e ▸ same_new n
theorem new_h {H H' : Hp} {p : Addr} {o : HO} (e : upd H p o = H') : H' p = some o := e ▸ upd_same
theorem tyL {K : PySem.W.Frag} {H : Hp} {p : Addr} {xs : List V} (h : H p = some (.lst xs)) : tyV K "list" (.ref p) H := .inl ⟨rfl, xs, .inl (.inl h)⟩
theorem Same.put {H H1 : Hp} {D : Addr} {o : HO} (x : Same H H1) (hD : H D = none) : Same H (upd H1 D o) := fun a o' h => by
  rw [upd_ne (ne_of_none h hD)]
  exact x a o' h
theorem none_ne {H : Hp} {a b : Addr} {o : HO} (h : H a = some o) (hb : H b = none) : a ≠ b := ne_of_none h hb
theorem cutV_lo (xs : List V) (n : Nat) : cutV xs (some (n : Int)) none = xs.drop n := by
  unfold cutV
  rw [HT.sIx_nat, HT.sIx_none]
  by_cases h : n ≤ xs.length
  · rw [Nat.min_eq_left h, List.take_of_length_le (by rw [List.length_drop]; omega)]
  · rw [Nat.min_eq_right (by omega), List.drop_of_length_le (by omega : xs.length ≤ n), List.drop_length]
    simp
theorem cutV_hi (xs : List V) (n : Nat) : cutV xs none (some (n : Int)) = xs.take n := by
  unfold cutV
  rw [HT.sIx_nat, HT.sIx_none, List.drop_zero, Nat.sub_zero]
  by_cases h : n ≤ xs.length
  · rw [Nat.min_eq_left h]
  · rw [Nat.min_eq_right (by omega), List.take_of_length_le (by omega : xs.length ≤ n), List.take_length]
theorem cutV_two (xs : List V) (a b : Nat) : cutV xs (some (a : Int)) (some (b : Int)) = (xs.drop a).take (b - a) := by
  unfold cutV
  rw [HT.sIx_nat, HT.sIx_nat]
  by_cases h : a ≤ xs.length
  · rw [Nat.min_eq_left h]
    by_cases h2 : b ≤ xs.length
    · rw [Nat.min_eq_left h2]
    · rw [Nat.min_eq_right (by omega), List.take_of_length_le (by rw [List.length_drop]; omega), List.take_of_length_le (by rw [List.length_drop]; omega)]
  · rw [Nat.min_eq_right (by omega : xs.length ≤ a), List.drop_of_length_le (by omega : xs.length ≤ a), List.drop_length]
    simp
theorem atI_ok {xs : List Int} {a : Int} (h0 : 0 ≤ a) (h : a < ((xs.map V.int).length : Nat)) : ∃ n, atI (xs.map V.int) a = some (.int n) := by
  rw [List.length_map] at h
  have e : ixN (xs.map V.int).length a = some a.toNat := by
    unfold ixN
    rw [if_pos h0, if_pos (by rw [List.length_map]; exact h)]
  unfold atI
  rw [e]
  have hl : a.toNat < xs.length := by omega
  exact ⟨xs[a.toNat], by simp [hl]⟩
theorem atI_get {α : Type} {xs : List α} {i : Nat} {v : α} (h : xs[i]? = some v) : atI xs (i : Int) = some v := by
  have hl := (List.getElem?_eq_some_iff.mp h).1
  have e : ixN xs.length (i : Int) = some i := by
    unfold ixN
    rw [if_pos (by omega), if_pos (by omega)]
    rfl
  unfold atI
  rw [e]
  exact h
theorem atI_last {α : Type} {xs : List α} {y : α} : atI (xs ++ [y]) (-1) = some y := by
  have e : ixN (xs ++ [y]).length (-1) = some xs.length := by
    unfold ixN
    rw [if_neg (by decide), List.length_append, List.length_singleton, if_pos (by omega)]
    congr 1
    omega
  unfold atI
  rw [e]
  simp
theorem ixN_last {n : Nat} : ixN (n + 1) (-1) = some n := by
  unfold ixN
  rw [if_neg (by decide), if_pos (by omega)]
  congr 1
  omega
theorem ixN_nat {n i : Nat} (h : i < n) : ixN n (i : Int) = some i := by
  unfold ixN
  rw [if_pos (by omega), if_pos (by omega)]
  rfl
theorem mapI_get {ns : List Int} {i : Nat} (h : i < ns.length) : (ns.map V.int)[i]? = some (.int ns[i]) := by simp [h]
theorem mapI_some {ns : List Int} {i : Nat} {x : V} (h : (ns.map V.int)[i]? = some x) : ∃ n, x = V.int n ∧ ns[i]? = some n := by
  rw [List.getElem?_map] at h
  cases e : ns[i]? with
  | none => rw [e] at h; cases h
  | some z => rw [e] at h; exact ⟨z, (Option.some.inj h).symm, rfl⟩
theorem atI_mem {α : Type} {xs : List α} {a : Int} (h0 : 0 ≤ a) (h : a < (xs.length : Nat)) : ∃ c, atI xs a = some c ∧ c ∈ xs := by
  have e : ixN xs.length a = some a.toNat := by
    unfold ixN
    rw [if_pos h0, if_pos h]
  unfold atI
  rw [e]
  have hl : a.toNat < xs.length := by omega
  exact ⟨xs[a.toNat], by simp [hl], List.getElem_mem hl⟩
abbrev mi (l : List Int) : List V := l.map V.int
theorem mi_app (a b : List Int) : mi (a ++ b) = mi a ++ mi b := List.map_append
theorem mi_len (a : List Int) : (mi a).length = a.length := List.length_map ..
theorem mi_take (a : List Int) (n : Nat) : (mi a).take n = mi (a.take n) := by unfold mi; rw [List.map_take]
theorem mi_drop (a : List Int) (n : Nat) : (mi a).drop n = mi (a.drop n) := by unfold mi; rw [List.map_drop]
def rowA : Str := " etaonisrhld"
def rowB : Str := "cumfpgwybvkxjqz."
def rowC : Str := "0123456789\n,'-!?"
abbrev S1 (c : Nat) : Str := ⟨#[c]⟩
/-- the half bytes of a sign -/
def codeL (c : Nat) : List Int :=
  if 0 ≤ Txt.find rowA (S1 c) then [Txt.find rowA (S1 c)]
  else if 0 ≤ Txt.find rowB (S1 c) then [12, Txt.find rowB (S1 c)]
  else if 0 ≤ Txt.find rowC (S1 c) then [13, Txt.find rowC (S1 c)]
  else [15, (c : Int) / 16, (c : Int) % 16]
def spCodes : Sp := fun vs H Q _ => ∃ c : Nat, vs = [.str (S1 c)] ∧ ∀ (p : Addr) (H' : Hp), Same H H' → H p = none → H' p = some (.tup ((codeL c).map V.int)) → Q (.ref p) H'
def spLCodes : Sp := fun vs H Q _ => ∃ c : Nat, vs = [.str (S1 c)] ∧ ∀ (p : Addr) (H' : Hp), Same H H' → H p = none → H' p = some (.lst ((codeL c).map V.int)) → Q (.ref p) H'
theorem foldl_app {α : Type} : ∀ (n : Nat) (x acc : Array α), ((List.replicate n x).foldl (· ++ ·) acc).toList = acc.toList ++ (List.replicate n x.toList).flatten
  | 0, x, acc => by simp
  | n + 1, x, acc => by
    rw [List.replicate_succ, List.foldl_cons, foldl_app n x (acc ++ x), List.replicate_succ, List.flatten_cons, Array.toList_append, List.append_assoc]
theorem mul_list (z : Str) (n : Int) (h0 : 0 ≤ n) : (Txt.mul z n).cps.toList = (List.replicate n.toNat z.cps.toList).flatten := by
  unfold Txt.mul
  by_cases h1 : n < 1
  · have e : n.toNat = 0 := by omega
    rw [if_pos h1, e]
    rfl
  · rw [if_neg h1]
    by_cases h2 : (n == 1 || z.length == 0) = true
    · rw [if_pos h2]
      simp only [Bool.or_eq_true, beq_iff_eq] at h2
      rcases h2 with h2 | h2
      · subst h2
        simp
      · have e : z.cps.toList = [] := List.eq_nil_of_length_eq_zero (by rw [Array.length_toList]; exact h2)
        rw [e]
        simp
    · rw [if_neg h2, foldl_app]
      simp
theorem mul_one (c : Nat) (k : Int) (k0 : 0 ≤ k) : (Txt.mul (S1 c) k).length = k.toNat ∧ (∀ x ∈ (Txt.mul (S1 c) k).cps.toList, x = c) := by
  have e := mul_list (S1 c) k k0
  have e2 : (List.replicate k.toNat [c]).flatten = List.replicate k.toNat c := by
    generalize k.toNat = n
    induction n with
    | zero => rfl
    | succ n ih => rw [List.replicate_succ, List.flatten_cons, ih, List.replicate_succ]; rfl
  have e3 : (Txt.mul (S1 c) k).cps.toList = List.replicate k.toNat c := e.trans e2
  constructor
  · show (Txt.mul (S1 c) k).cps.size = _
    rw [← Array.length_toList, e3, List.length_replicate]
  · rw [e3]
    intro x hx
    exact (List.mem_replicate.mp hx).2
theorem len_app (a b : Str) : (a ++ b).length = a.length + b.length := by
  show (a.cps ++ b.cps).size = _
  rw [Array.size_append]
  rfl
theorem list_app (a b : Str) : (a ++ b).cps.toList = a.cps.toList ++ b.cps.toList := Array.toList_append
theorem cut_sub {z : Str} {lo hi : Option Int} {c : Nat} (h : c ∈ (cutS z lo hi).cps.toList) : c ∈ z.cps.toList := by
  unfold cutS at h
  exact List.mem_of_mem_drop (List.mem_of_mem_take (by simpa using h))
theorem sIx_nat' {n d : Nat} {x : Int} (h0 : 0 ≤ x) : HT.sIx n d (some x) = min x.toNat n := by
  have e : x = (x.toNat : Int) := by omega
  rw [e]
  exact HT.sIx_nat n d x.toNat
theorem cutS_len (z : Str) (lo hi : Option Int) : (cutS z lo hi).length = min (HT.sIx z.length z.length hi - HT.sIx z.length 0 lo) (z.length - HT.sIx z.length 0 lo) := by
  show (cutS z lo hi).cps.size = _
  unfold cutS
  rw [List.size_toArray, List.length_take, List.length_drop, Array.length_toList]
  rfl
theorem cut_hi (z : Str) (x : Int) (h0 : 0 ≤ x) : (cutS z none (some x)).length ≤ x.toNat := by
  rw [cutS_len, sIx_nat' h0, HT.sIx_none]
  omega
theorem cut_two (z : Str) (x : Int) (h0 : 0 ≤ x) (h1 : x ≤ z.length) : (cutS z none (some x)).length + (cutS z (some x) none).length = z.length := by
  rw [cutS_len, cutS_len, sIx_nat' h0, sIx_nat' h0, HT.sIx_none, HT.sIx_none]
  omega
theorem join_S1 (cs : List Nat) : (Txt.join "" (cs.map S1)).cps.toList = cs := by
  rw [join0_list, List.map_map]
  induction cs with
  | nil => rfl
  | cons c l ih =>
    rw [List.map_cons, List.flatten_cons, ih]
    rfl
theorem sum_S1 (cs : List Nat) : ((cs.map S1).map (·.length)).sum = cs.length := by
  rw [List.map_map]
  induction cs with
  | nil => rfl
  | cons c l ih =>
    rw [List.map_cons, List.sum_cons, ih]
    show 1 + l.length = l.length + 1
    omega
theorem join_fits {cs : List Nat} (h : cs.length ≤ 100000) : (((cs.map S1).map (·.length)).sum + (cs.map S1).length * (("" : Str)).length) ≤ 16777216 := by
  rw [sum_S1]
  have e2 : (("" : Str)).length = 0 := rfl
  rw [e2]
  omega
theorem join_len (cs : List Nat) : (Txt.join "" (cs.map S1)).length = cs.length := by
  show (Txt.join "" (cs.map S1)).cps.size = _
  rw [← Array.length_toList, join_S1]
theorem twice_cut {L : Str} {a x : Int} (a0 : 0 ≤ a) (a1 : a < L.length) (x0 : 0 ≤ x) (x1 : x < L.length) : 1 ≤ (cutS (L ++ L) (some a) (some (a + 1 + x))).length ∧ (cutS (L ++ L) (some a) (some (a + 1 + x))).length ≤ 2 * L.length ∧ ∀ c ∈ (cutS (L ++ L) (some a) (some (a + 1 + x))).cps.toList, c ∈ L.cps.toList := by
  have e : (L ++ L).length = L.length + L.length := len_app ..
  refine ⟨?_, ?_, fun c hc => ?_⟩
  · rw [cutS_len, sIx_nat' a0, sIx_nat' (by omega), e]
    omega
  · rw [cutS_len, sIx_nat' a0, sIx_nat' (by omega), e]
    omega
  · have := cut_sub hc
    rw [list_app, List.mem_append] at this
    exact this.elim id id
theorem rep_len {α : Type} (n : Nat) (l : List α) : ((List.replicate n l).flatten).length = n * l.length := by
  induction n with
  | zero => simp
  | succ n ih =>
    rw [List.replicate_succ, List.flatten_cons, List.length_append, ih, Nat.add_mul]
    omega
theorem rep_mem {α : Type} {n : Nat} {l : List α} {x : α} (h : x ∈ (List.replicate n l).flatten) : x ∈ l := by
  obtain ⟨m, hm, hx⟩ := List.mem_flatten.mp h
  rw [(List.mem_replicate.mp hm).2] at hx
  exact hx
theorem mul_len (z : Str) {n : Int} (h0 : 0 ≤ n) : (Txt.mul z n).length = n.toNat * z.length := by
  show (Txt.mul z n).cps.size = _
  rw [← Array.length_toList, mul_list z n h0, rep_len, Array.length_toList]
  rfl
theorem mul_mem {z : Str} {n : Int} {x : Nat} (h0 : 0 ≤ n) (h : x ∈ (Txt.mul z n).cps.toList) : x ∈ z.cps.toList := by
  rw [mul_list z n h0] at h
  exact rep_mem h
def signs1 : Str := " !\"#$\n&'()*+,-./0123456789:;<=>?@ABCDEFGHIJKLMNOPQRSTUVWXYZ[\\]^_`abcdefghijklmnopqrstuvwxyz{|}~"
def signs2 : Str := " !\"#$&'()*+,-./0123456789:;<=>?@ABCDEFGHIJKLMNOPQRSTUVWXYZ[\\]^_`abcdefghijklmnopqrstuvwxyz{|}~\n"
structure TextOk (z : Str) : Prop where
  len : z.length ≤ 1000
  all : ∀ c ∈ z.cps.toList, c ∈ signs2.cps.toList ∨ c = 9
def firstBad : List Nat → Nat → Option Int
  | [], _ => none
  | c :: r, i => if c ∈ signs1.cps.toList then firstBad r (i + 1) else some i
def judge (z : Str) : Option Int := if 200 < z.length then some (-1) else firstBad z.cps.toList 0
def JudgedBy (H : Hp) (v : V) (r : Option Int) : Prop := (∃ z, v = .str z ∧ z.length ≤ 100000 ∧ r = judge z) ∨ (∃ t, tyv H v = some t ∧ kitB t "str" = some false ∧ r = some (-1))
def spCT (K : PySem.W.Frag) : Sp := fun vs H Q E => ∃ (v : V) (r : Option Int), vs = [v] ∧ JudgedBy H v r ∧ (r = none → ∀ H', Same H H' → Q .non H') ∧
  (∀ i, r = some i → ∀ d H', Same H H' → H d = none → H' d = some (.xd [("place", .int i)]) → E (.ref (He.ga K "BadText")) (some d) H')
theorem signs_sub : ∀ c ∈ signs2.cps.toList, c ∈ signs1.cps.toList := by decide +kernel
theorem nine_out : 9 ∉ signs1.cps.toList := by decide +kernel
theorem at1 (z : Str) (c i : Nat) : StrLaws.At z (S1 c) z.length i ↔ z.cps.toList[i]? = some c := by
  have e := TL.at_iff (x := z) (y := S1 c) (by intro h; cases h) i
  rw [e]
  show ((((z.cps.toList).drop i).take 1) == [c]) = true ↔ _
  rw [beq_iff_eq]
  cases h : z.cps.toList.drop i with
  | nil =>
    have hl : z.cps.toList.length ≤ i := List.drop_eq_nil_iff.mp h
    rw [List.getElem?_eq_none hl]
    simp
  | cons d r =>
    have h0 : z.cps.toList[i]? = some d := by
      rw [← Nat.add_zero i, ← List.getElem?_drop, h]
      rfl
    rw [h0]
    simp
theorem firstBad_none : ∀ (l : List Nat) (k : Nat), (∀ c ∈ l, c ∈ signs1.cps.toList) → firstBad l k = none
  | [], _, _ => rfl
  | c :: r, k, h => by
    show (if c ∈ signs1.cps.toList then firstBad r (k + 1) else some (k : Int)) = none
    rw [if_pos (h c (List.mem_cons_self ..))]
    exact firstBad_none r (k + 1) fun x hx => h x (List.mem_cons_of_mem _ hx)
theorem firstBad_at : ∀ (l : List Nat) (k i : Nat), l[i]? = some 9 → (∀ j, j < i → ∀ c, l[j]? = some c → c ∈ signs1.cps.toList) → firstBad l k = some ((k + i : Nat) : Int)
  | [], _, _, h, _ => by simp at h
  | c :: r, k, 0, h, _ => by
    have e : c = 9 := by simpa using h
    show (if c ∈ signs1.cps.toList then firstBad r (k + 1) else some (k : Int)) = _
    rw [if_neg (by rw [e]; exact nine_out)]
    simp
  | c :: r, k, i + 1, h, hb => by
    show (if c ∈ signs1.cps.toList then firstBad r (k + 1) else some (k : Int)) = _
    rw [if_pos (hb 0 (by omega) c (by simp)), firstBad_at r (k + 1) i (by simpa using h) (fun j hj x hx => hb (j + 1) (by omega) x (by simpa using hx))]
    congr 1
    omega
theorem no_tab {z : Str} (h : ∀ c ∈ z.cps.toList, c ∈ signs2.cps.toList ∨ c = 9) (h9 : ¬ 9 ∈ z.cps.toList) : none = firstBad z.cps.toList 0 := by
  refine (firstBad_none _ _ fun c hc => ?_).symm
  rcases h c hc with g | g
  · exact signs_sub c g
  · exact absurd (g ▸ hc) h9
theorem tab_found {z : Str} (h : ∀ c ∈ z.cps.toList, c ∈ signs2.cps.toList ∨ c = 9) (h9 : 9 ∈ z.cps.toList) : some (Txt.find z "\t") = firstBad z.cps.toList 0 := by
  have e : (("\t" : Str)) = S1 9 := rfl
  rw [e]
  rcases PyProof.Rows.find_whole z (S1 9) with ⟨_, hn⟩ | ⟨i, hf, ha, hb⟩
  · obtain ⟨i, hi⟩ := List.mem_iff_getElem?.mp h9
    exact absurd ((at1 z 9 i).mpr hi) (hn i)
  · rw [hf, firstBad_at _ 0 i ((at1 z 9 i).mp ha) (fun j hj c hc => ?_)]
    · simp
    · rcases h c (List.mem_of_getElem? hc) with g | g
      · exact signs_sub c g
      · exact absurd ((at1 z 9 j).mpr (g ▸ hc)) (hb j hj)
theorem textCut {z : Str} {lo hi : Option Int} (h : TextOk z) : TextOk (cutS z lo hi) := by
  refine ⟨?_, fun c hc => h.all c (cut_sub hc)⟩
  rw [cutS_len]
  have := h.len
  omega
theorem fine_ok : isF (.str "fine") = true := by decide +kernel
theorem ref_ok : isF (.str "refused") = true := by decide +kernel
theorem codeL_len (c : Nat) : (codeL c).length ≤ 3 := by
  unfold codeL
  split
  · show 1 ≤ 3
    decide
  · split
    · show 2 ≤ 3
      decide
    · split
      · show 2 ≤ 3
        decide
      · show 3 ≤ 3
        decide
theorem flat_len : ∀ l : List Nat, ((l.map codeL).flatten).length ≤ 3 * l.length
  | [] => Nat.le_refl _
  | c :: l => by
    rw [List.map_cons, List.flatten_cons, List.length_append, List.length_cons]
    have := flat_len l
    have := codeL_len c
    omega
theorem tyv_same {H H' : Hp} {v : V} {t : String} (s : Same H H') (h : tyv H v = some t) : tyv H' v = some t := by
  cases v with
  | ref a =>
    unfold tyv at h ⊢
    dsimp only at h ⊢
    cases e : H a with
    | none => rw [e] at h; cases h
    | some o => rw [e] at h; rw [s a o e]; exact h
  | _ => exact h
theorem tyv_kp {b : Addr} {H H' : Hp} {v : V} {t : String} (B : Bag H b) (k : Kp b H H') (h : tyv H v = some t) : tyv H' v = some t := by
  cases v with
  | ref a =>
    by_cases e : a = b
    · obtain ⟨kvs, h1⟩ := B.some
      obtain ⟨kvs', h2⟩ := k.bag.some
      unfold tyv at h ⊢
      dsimp only at h ⊢
      rw [e, h1] at h
      rw [e, h2]
      exact h
    · unfold tyv at h ⊢
      dsimp only at h ⊢
      cases q : H a with
      | none => rw [q] at h; cases h
      | some o => rw [q] at h; rw [k.keep a o e q]; exact h
  | _ => exact h
def clist (z : Str) : List Int := (z.cps.toList.map codeL).flatten
def spPlain : Sp := fun vs H Q _ => ∃ z : Str, vs = [.str z] ∧ z.length ≤ 1000 ∧ ∀ (p : Addr) (H' : Hp), Same H H' → H p = none → H' p = some (.lst (mi (clist z))) → Q (.ref p) H'
theorem str_ext {a b : Str} (h : a.cps.toList = b.cps.toList) : a = b := by
  cases a with
  | mk x =>
    cases b with
    | mk y =>
      have e : x = y := Array.toList_inj.mp h
      rw [e]
/-- all but the object at x is kept -/
def Kx (x : Addr) (H H' : Hp) : Prop := ∀ a o, a ≠ x → H a = some o → H' a = some o
theorem Kx.trans {x : Addr} {H H1 H2 : Hp} (a : Kx x H H1) (b : Kx x H1 H2) : Kx x H H2 := fun c o n h => b c o n (a c o n h)
theorem Kx.of {x : Addr} {H H1 : Hp} (s : Same H H1) : Kx x H H1 := fun a o _ h => s a o h
theorem Rd.kx {x : Addr} {H H' : Hp} {C dx : Addr} {fs : List (Str × V)} {a : Addr} {u : HO} (k : Kx x H H') (hx : H x = some (.ins C dx fs)) (hu : ∀ C dx fs, u ≠ .ins C dx fs) (h : L2.Rd H a u) : L2.Rd H' a u := by
  rcases h with h | ⟨o, h⟩
  · exact .inl (k a _ (ne_of h hx fun e => hu _ _ _ e) h)
  · exact .inr ⟨o, k a _ (ne_of h hx fun e => by cases e) h⟩
def SqA (K : PySem.W.Frag) (H : Hp) (a : Addr) (xs : List V) : Prop := SqL K H a xs ∨ SqT K H a xs
theorem SqA.same {K : PySem.W.Frag} {H H' : Hp} {a : Addr} {xs : List V} (h : SqA K H a xs) (s : Same H H') : SqA K H' a xs := by
  rcases h with ((h | ⟨o, h⟩) | h) | ((h | ⟨o, h⟩) | h)
  · exact .inl (.inl (.inl (s _ _ h)))
  · exact .inl (.inl (.inr ⟨o, s _ _ h⟩))
  · exact .inl (.inr h)
  · exact .inr (.inl (.inl (s _ _ h)))
  · exact .inr (.inl (.inr ⟨o, s _ _ h⟩))
  · exact .inr (.inr h)
theorem forA {K : PySem.W.Frag} {x : Addr} {C dx : Addr} {fs : List (Str × V)} {a : Addr} {xs : List V} {j : Nat} {g : TG} {tb : TS} {D : Ends} {σ : L2.St} {Hb H : Hp} (hx : Hb x = some (.ins C dx fs)) (hv : σ[j]? = some (some (.ref a))) (hq : SqA K Hb a xs) (Pv : Nat → L2.St → Hp → Prop) (h0 : Pv 0 σ H) (hS : ∀ i σ H', Pv i σ H' → Kx x Hb H')
    (hs : ∀ i y σ H, xs[i]? = some y → Pv i σ H → g y σ H fun σ2 H2 => tb { D with nx := Pv (i + 1), ct := Pv (i + 1), bk := D.nx } σ2 H2) (hd : ∀ σ H, Pv xs.length σ H → D.nx σ H) : tFor (iQ K (tVar j)) g tb D σ H := by
  rcases hq with hq | hq
  · have kL : ∀ i σ H', Pv i σ H' → SqL K H' a xs := fun i σ H' p => by
      rcases hq with hq | hq
      · exact .inl (Rd.kx (hS i σ H' p) hx (fun _ _ _ e => by cases e) hq)
      · exact .inr hq
    exact .inl ⟨_, hv, a, rfl, ⟨_, kL _ _ _ h0⟩, for_list (K := K) (a := a) (xs := xs) Pv h0 (fun i σ H' _ p => kL i σ H' p) hs hd⟩
  · have kT : ∀ i σ H', Pv i σ H' → SqT K H' a xs := fun i σ H' p => by
      rcases hq with hq | hq
      · exact .inl (Rd.kx (hS i σ H' p) hx (fun _ _ _ e => by cases e) hq)
      · exact .inr hq
    exact .inr ⟨_, hv, a, rfl, ⟨_, kT _ _ _ h0⟩, for_tup (K := K) (a := a) (xs := xs) Pv h0 (fun i σ H' _ p => kT i σ H' p) hs hd⟩
theorem Kx.free {x d : Addr} {H H' : Hp} {o : HO} (k : Kx x H H') (hx : H' x = some o) (h : H' d = none) : H d = none := by
  cases q : H d with
  | none => rfl
  | some u =>
    by_cases e : d = x
    · rw [e, hx] at h
      cases h
    · rw [k d u e q] at h
      cases h
theorem tyv_kx {x : Addr} {H H' : Hp} {C dx : Addr} {fs : List (Str × V)} {v : V} {t : String} (k : Kx x H H') (hx : H x = some (.ins C dx fs)) (h : tyv H v = some t) : tyv H' v = some t := by
  cases v with
  | ref a =>
    by_cases e : a = x
    · unfold tyv at h
      dsimp only at h
      rw [e, hx] at h
      cases h
    · unfold tyv at h ⊢
      dsimp only at h ⊢
      cases q : H a with
      | none => rw [q] at h; cases h
      | some o => rw [q] at h; rw [k a o e q]; exact h
  | _ => exact h
theorem nd_len : ∀ {a b : List Str}, a.Nodup → (∀ z ∈ a, z ∈ b) → a.length ≤ b.length
  | [], _, _, _ => Nat.zero_le _
  | x :: a, b, nd, h => by
    have hx := h x List.mem_cons_self
    have := nd_len (a := a) (b := b.erase x) (List.nodup_cons.mp nd).2 fun z hz => (List.mem_erase_of_ne (fun (e : z = x) => (List.nodup_cons.mp nd).1 (e ▸ hz))).mpr (h z (List.mem_cons_of_mem _ hz))
    rw [List.length_erase_of_mem hx] at this
    have : 0 < b.length := List.length_pos_of_mem hx
    rw [List.length_cons]
    omega
/-- the different ones, ascending -/
def DistOf (l ys : List Str) : Prop := sortedS ys = true ∧ ys.Nodup ∧ ∀ f, f ∈ ys ↔ f ∈ l
def spDist : Sp := fun vs H Q _ => ∃ (p : Addr) (l : List Str), vs = [.ref p] ∧ H p = some (.lst (ms l)) ∧ l.length ≤ 20000 ∧ ∀ q ys H', Same H H' → DistOf l ys → H q = none → H' q = some (.lst (ms ys)) → Q (.ref q) H'
def letS : Str := "abcdefghijklmnopqrstuvwxyz"
abbrev isL (c : Nat) : Bool := decide (c ∈ letS.cps.toList)
/-- a word of a lot -/
def isSW (z : Str) : Bool := decide (3 ≤ z.length) && decide (z.length ≤ 20) && z.cps.toList.all isL
def BadS (H : Hp) (w : V) : Prop := (∃ z, w = .str z ∧ z.length ≤ 1000 ∧ isSW z = false) ∨ ∃ t, tyv H w = some t ∧ kitB t "str" = some false
theorem BadS.same {H H' : Hp} {w : V} (s : Same H H') (h : BadS H w) : BadS H' w := by
  rcases h with h | ⟨t, h1, h2⟩
  · exact .inl h
  · exact .inr ⟨t, tyv_same s h1, h2⟩
theorem BadS.kp {b : Addr} {H H' : Hp} {w : V} (B : Bag H b) (k : Kp b H H') (h : BadS H w) : BadS H' w := by
  rcases h with h | ⟨t, h1, h2⟩
  · exact .inl h
  · exact .inr ⟨t, tyv_kp B k h1, h2⟩
theorem BadS.kx {x : Addr} {H H' : Hp} {C dx : Addr} {fs : List (Str × V)} {v : V} (k : Kx x H H') (hx : H x = some (.ins C dx fs)) (h : BadS H v) : BadS H' v := by
  rcases h with h | ⟨t, h1, h2⟩
  · exact .inl h
  · exact .inr ⟨t, tyv_kx k hx h1, h2⟩
def spShort : Sp := fun vs H Q _ => ∃ v : V, vs = [v] ∧ ((∃ z, v = .str z ∧ z.length ≤ 1000 ∧ ∀ H', Same H H' → Q (.bl (isSW z)) H') ∨ ∃ t, tyv H v = some t ∧ kitB t "str" = some false ∧ Q (.bl false) H)
/-- the first thing that is no word of a lot -/
inductive FirstS (H : Hp) : List V → V → Prop where
  | here {v : V} {l : List V} (h : BadS H v) : FirstS H (v :: l) v
  | there {v : V} {z : Str} {l : List V} (h : isSW z = true) (r : FirstS H l v) : FirstS H (.str z :: l) v
theorem FirstS.same {H H' : Hp} (s : Same H H') : ∀ {l : List V} {w : V}, FirstS H l w → FirstS H' l w
  | _, _, .here h => .here (h.same s)
  | _, _, .there h r => .there h (r.same s)
theorem FirstS.kp {b : Addr} {H H' : Hp} (B : Bag H b) (k : Kp b H H') : ∀ {l : List V} {w : V}, FirstS H l w → FirstS H' l w
  | _, _, .here h => .here (h.kp B k)
  | _, _, .there h r => .there h (r.kp B k)
theorem FirstS.pre {H : Hp} {l : List V} {w : V} (h : FirstS H l w) : ∀ {zs : List Str}, (∀ z ∈ zs, isSW z = true) → FirstS H (ms zs ++ l) w
  | [], _ => h
  | z :: zs, hz => .there (hz z List.mem_cons_self) (h.pre fun y hy => hz y (List.mem_cons_of_mem _ hy))
theorem isSW_len {z : Str} (h : isSW z = true) : 3 ≤ z.length ∧ z.length ≤ 20 := by
  unfold isSW at h
  simp only [Bool.and_eq_true, decide_eq_true_eq] at h
  exact h.1
theorem bads_not {H : Hp} {z : Str} (h : BadS H (.str z)) (w : isSW z = true) : False := by
  rcases h with ⟨y, e, _, h⟩ | ⟨t, h1, h2⟩
  · cases e
    rw [w] at h
    cases h
  · rw [tyv_str] at h1
    cases h1
    rw [kb_str_str] at h2
    cases h2
theorem FirstS.at {H : Hp} {w : V} : ∀ {l : List V}, FirstS H l w → ∀ {i : Nat} {zs : List Str} {y : V}, l.take i = ms zs → (∀ z ∈ zs, isSW z = true) → l[i]? = some y → (∃ z, y = .str z ∧ isSW z = true) ∨ (y = w ∧ BadS H y)
  | _, .here h, 0, _, y, _, _, hy => by
    have e : _ = y := Option.some.inj hy
    subst e
    exact .inr ⟨rfl, h⟩
  | _, .here (v := v) (l := l) h, i + 1, zs, y, ht, hw, _ => by
    rw [List.take_succ_cons] at ht
    cases zs with
    | nil => cases ht
    | cons z zs =>
      have e : v = .str z := (List.cons.inj ht).1
      subst e
      exact (bads_not h (hw z List.mem_cons_self)).elim
  | _, .there (z := z) h r, 0, _, y, _, _, hy => by
    have e : _ = y := Option.some.inj hy
    subst e
    exact .inl ⟨z, rfl, h⟩
  | _, .there (l := l) h r, i + 1, zs, y, ht, hw, hy => by
    rw [List.take_succ_cons] at ht
    cases zs with
    | nil => cases ht
    | cons z zs => exact FirstS.at r (List.cons.inj ht).2 (fun z hz => hw z (List.mem_cons_of_mem _ hz)) (by simpa using hy)
theorem FirstS.no {H : Hp} {w : V} : ∀ {l : List V}, FirstS H l w → ∀ {zs : List Str}, l = ms zs → (∀ z ∈ zs, isSW z = true) → False
  | _, .here h, zs, ht, hw => by
    cases zs with
    | nil => cases ht
    | cons z zs =>
      have e := (List.cons.inj ht).1
      subst e
      exact bads_not h (hw z List.mem_cons_self)
  | _, .there h r, zs, ht, hw => by
    cases zs with
    | nil => cases ht
    | cons z zs => exact FirstS.no r (List.cons.inj ht).2 fun z hz => hw z (List.mem_cons_of_mem _ hz)
/-- a text of these signs -/
abbrev mkS (l : List Nat) : Str := ⟨l.toArray⟩
def runS (run : List Nat) : List Str := if run = [] then [] else [mkS run]
/-- the pieces of the rest, a run of letters being open -/
def pg : List Nat → List Nat → List Str
  | run, [] => runS run
  | run, c :: l => if isL c then pg (run ++ [c]) l else runS run ++ S1 c :: pg [] l
theorem pg_let {c : Nat} {l run : List Nat} (h : isL c = true) : pg run (c :: l) = pg (run ++ [c]) l := by
  rw [pg, if_pos h]
theorem pg_non {c : Nat} {l run : List Nat} (h : isL c = false) : pg run (c :: l) = runS run ++ S1 c :: pg [] l := by
  rw [pg, if_neg (by rw [h]; decide)]
theorem mkS_app (a b : List Nat) : mkS a ++ mkS b = mkS (a ++ b) := by
  apply str_ext
  rw [list_app]
theorem mkS_len (a : List Nat) : (mkS a).length = a.length := List.size_toArray
def pieces (z : Str) : List Str := pg [] z.cps.toList
theorem runS_sum (run : List Nat) : ((runS run).map (·.length)).sum = run.length := by
  unfold runS
  split
  · rename_i h
    rw [h]
    rfl
  · show run.toArray.size + 0 = _
    simp
theorem runS_pos {run : List Nat} {p : Str} (h : p ∈ runS run) : 1 ≤ p.length := by
  unfold runS at h
  split at h
  · cases h
  · rename_i hr
    rw [List.mem_singleton.mp h]
    show 1 ≤ run.toArray.size
    have := List.length_pos_iff.mpr hr
    rw [List.size_toArray]
    exact this
theorem pg_sum : ∀ (l run : List Nat), ((pg run l).map (·.length)).sum = run.length + l.length
  | [], run => by
    unfold pg
    rw [runS_sum]
    rfl
  | c :: l, run => by
    unfold pg
    split
    · rw [pg_sum l, List.length_append, List.length_cons, List.length_cons, List.length_nil]
      omega
    · rw [List.map_append, List.sum_append, runS_sum, List.map_cons, List.sum_cons, pg_sum l, List.length_nil, List.length_cons]
      show run.length + (1 + (0 + l.length)) = _
      omega
theorem pg_pos : ∀ (l run : List Nat), ∀ p ∈ pg run l, 1 ≤ p.length
  | [], run => fun p hp => runS_pos hp
  | c :: l, run => fun p hp => by
    unfold pg at hp
    split at hp
    · exact pg_pos l _ p hp
    · rcases List.mem_append.mp hp with hp | hp
      · exact runS_pos hp
      · rcases List.mem_cons.mp hp with rfl | hp
        · exact Nat.le_refl 1
        · exact pg_pos l _ p hp
theorem sum_mem {l : List Str} {p : Str} (h : p ∈ l) : p.length ≤ (l.map (·.length)).sum := by
  induction l with
  | nil => cases h
  | cons x l ih =>
    rw [List.map_cons, List.sum_cons]
    rcases List.mem_cons.mp h with rfl | h
    · omega
    · have := ih h
      omega
theorem pieces_sum (z : Str) : ((pieces z).map (·.length)).sum = z.length := by
  unfold pieces
  rw [pg_sum, List.length_nil, Nat.zero_add, Array.length_toList]
  rfl
theorem pieces_len {z p : Str} (h : p ∈ pieces z) : 1 ≤ p.length ∧ p.length ≤ z.length := ⟨pg_pos _ _ p h, pieces_sum z ▸ sum_mem h⟩
theorem len_le_sum {l : List Str} (h : ∀ p ∈ l, 1 ≤ p.length) : l.length ≤ (l.map (·.length)).sum := by
  induction l with
  | nil => exact Nat.le_refl _
  | cons x l ih =>
    rw [List.map_cons, List.sum_cons, List.length_cons]
    have := ih fun y hy => h y (List.mem_cons_of_mem _ hy)
    have := h x List.mem_cons_self
    omega
theorem pieces_many (z : Str) : (pieces z).length ≤ z.length := pieces_sum z ▸ len_le_sum (pg_pos _ _)
def spPieces : Sp := fun vs H Q _ => ∃ z : Str, vs = [.str z] ∧ z.length ≤ 1000 ∧ ∀ p H', Same H H' → H p = none → H' p = some (.lst (ms (pieces z))) → Q (.ref p) H'
/-- the half bytes of a piece -/
def half1 (ws : List Str) (p : Str) : List Int := if p ∈ ws then [14, (ws.idxOf p : Nat)] else clist p
def half (ws : List Str) (z : Str) : List Int := ((pieces z).map (half1 ws)).flatten ++ [15, 0, 0]
theorem clist_len (z : Str) : (clist z).length ≤ 3 * z.length := by
  have := flat_len z.cps.toList
  rw [Array.length_toList] at this
  exact this
theorem half1_len (ws : List Str) {p : Str} (h : 1 ≤ p.length) : (half1 ws p).length ≤ 3 * p.length := by
  unfold half1
  split
  · show 2 ≤ 3 * p.length
    omega
  · exact clist_len p
theorem halves_len (ws : List Str) : ∀ {l : List Str}, (∀ p ∈ l, 1 ≤ p.length) → ((l.map (half1 ws)).flatten).length ≤ 3 * (l.map (·.length)).sum
  | [], _ => Nat.le_refl _
  | p :: l, h => by
    rw [List.map_cons, List.flatten_cons, List.length_append, List.map_cons, List.sum_cons]
    have := halves_len ws (l := l) fun q hq => h q (List.mem_cons_of_mem _ hq)
    have := half1_len ws (h p List.mem_cons_self)
    omega
theorem half_len (ws : List Str) (z : Str) : (half ws z).length ≤ 3 * z.length + 3 := by
  unfold half
  rw [List.length_append]
  have := halves_len ws (l := pieces z) (pg_pos _ _)
  rw [pieces_sum] at this
  show _ + 3 ≤ _
  omega
def pad2 (l : List Int) : List Int := if l.length % 2 = 1 then l ++ [0] else l
def by2 (l : List Int) : List Int := (List.range ((l.length + 1) / 2)).map fun k => (pad2 l).getD (2 * k) 0 * 16 + (pad2 l).getD (2 * k + 1) 0
theorem pad2_len (l : List Int) : (pad2 l).length = 2 * ((l.length + 1) / 2) := by
  unfold pad2
  split
  · rw [List.length_append]
    show l.length + 1 = _
    omega
  · omega
theorem by2_len (l : List Int) : (by2 l).length = (l.length + 1) / 2 := by
  unfold by2
  rw [List.length_map, List.length_range]
theorem range_succ' {α : Type} (f : Nat → α) (i : Nat) : (List.range (i + 1)).map f = (List.range i).map f ++ [f i] := by
  rw [List.range_succ, List.map_append]
  rfl
def spPairs : Sp := fun vs H Q _ => ∃ (p : Addr) (l : List Int), vs = [.ref p] ∧ H p = some (.lst (mi l)) ∧ l.length ≤ 10000 ∧ ∀ q H', Same H H' → H q = none → H' q = some (.tup (mi (by2 l))) → Q (.ref q) H'
structure LotOk (ws : List Str) : Prop where
  so : sortedS ws = true
  nd : ws.Nodup
  ok : ∀ z ∈ ws, isSW z = true
  lt : ws.length ≤ 16
def Lot (K : PySem.W.Frag) (H : Hp) (x : Addr) (ws : List Str) : Prop := LotOk ws ∧ ∃ dx p, H x = some (.ins (He.ga K "Lot") dx [("words", .ref p)]) ∧ FT H p (ms ws)
theorem Lot.same {K : PySem.W.Frag} {H H' : Hp} {x : Addr} {ws : List Str} (h : Lot K H x ws) (s : Same H H') : Lot K H' x ws := by
  obtain ⟨o, dx, p, h1, h2⟩ := h
  exact ⟨o, dx, p, s _ _ h1, h2.same s⟩
theorem Lot.kp {K : PySem.W.Frag} {b : Addr} {H H' : Hp} {x : Addr} {ws : List Str} (h : Lot K H x ws) (B : Bag H b) (k : Kp b H H') : Lot K H' x ws := by
  obtain ⟨o, dx, p, h1, h2⟩ := h
  exact ⟨o, dx, p, k.ins B h1, h2.kp B k⟩
theorem Lot.ins {K : PySem.W.Frag} {H : Hp} {x : Addr} {ws : List Str} (h : Lot K H x ws) : ∃ dx fl, H x = some (.ins (He.ga K "Lot") dx fl) := by
  obtain ⟨o, dx, p, h1, _⟩ := h
  exact ⟨dx, _, h1⟩
theorem Lot.put {K : PySem.W.Frag} {H : Hp} {x a : Addr} {ws : List Str} {xs ys : List V} (h : Lot K H x ws) (ha : H a = some (.lst xs)) : Lot K (upd H a (.lst ys)) x ws := by
  obtain ⟨o, dx, p, h1, ⟨ob, h2, d2⟩⟩ := h
  refine ⟨o, dx, p, ?_, ⟨ob, ?_, d2⟩⟩
  · rw [upd_ne (ne_of h1 ha (by intro z; cases z))]
    exact h1
  · rw [upd_ne (ne_of h2 ha (by intro z; cases z))]
    exact h2
theorem let_lt : ∀ c ∈ letS.cps.toList, c < 200 := by decide +kernel
theorem isSW_mem {z : Str} (h : isSW z = true) : ∀ c ∈ z.cps.toList, c ∈ letS.cps.toList := fun c hc => by
  unfold isSW at h
  exact of_decide_eq_true (List.all_eq_true.mp (Bool.and_eq_true_iff.mp h).2 c hc)
theorem isSW_F {z : Str} (h : isSW z = true) : isF (.str z) = true := by
  show PyData.strOk z = true
  unfold PyData.strOk
  rw [← Array.all_toList, List.all_eq_true]
  intro x hx
  exact decide_eq_true (Nat.lt_trans (let_lt x (isSW_mem h x hx)) (by decide))
theorem isF_sw {l : List Str} (h : ∀ z ∈ l, isSW z = true) : (ms l).all isF = true := by
  rw [List.all_eq_true]
  intro v hv
  obtain ⟨z, hz, rfl⟩ := List.mem_map.mp hv
  exact isSW_F (h z hz)
/-- Lot(words) -/
def spLot (K : PySem.W.Frag) : Sp := fun vs H Q E => ∃ (x dx pw : Addr) (l : List V), vs = [.ref x, .ref pw] ∧ H x = some (.ins (He.ga K "Lot") dx []) ∧ SqA K H pw l ∧ l.length ≤ 500 ∧
  ((∃ w, FirstS H l w ∧ ∀ d H', Kx x H H' → H d = none → H' d = some (.xd [("word", w)]) → E (.ref (He.ga K "BadLot")) (some d) H') ∨
   (∃ zs, l = ms zs ∧ (∀ z ∈ zs, isSW z = true) ∧ ∀ ws, DistOf zs ws → (ws.length ≤ 16 → ∀ H', Kx x H H' → Lot K H' x ws → Q .non H') ∧
     (16 < ws.length → ∀ d H', Kx x H H' → H d = none → H' d = some (.xd [("kind", .str "word")]) → E (.ref (He.ga K "TooMany")) (some d) H')))
def spTGet (K : PySem.W.Frag) : Sp := fun vs H Q _ => ∃ (x : Addr) (i : Int) (ws : List Str), vs = [.ref x, .int i] ∧ Lot K H x ws ∧ ∃ z, atI (ms ws) i = some (.str z) ∧ Q (.str z) H
def spTIter (K : PySem.W.Frag) : Sp := fun vs H Q _ => ∃ (x : Addr) (ws : List Str), vs = [.ref x] ∧ Lot K H x ws ∧ ∀ it p, FT H p (ms ws) → H it = none → Q (.ref it) (upd H it (TItO p it 0))
def spTLen (K : PySem.W.Frag) : Sp := fun vs H Q _ => ∃ (x : Addr) (ws : List Str), vs = [.ref x] ∧ Lot K H x ws ∧ Q (.int (ws.length : Nat)) H
def spTIn (K : PySem.W.Frag) : Sp := fun vs H Q _ => ∃ (x : Addr) (z : Str) (ws : List Str), vs = [.ref x, .str z] ∧ Lot K H x ws ∧ Q (.bl (decide (z ∈ ws))) H
def spTEq (K : PySem.W.Frag) : Sp := fun vs H Q _ => ∃ (x y : Addr) (ws us : List Str), vs = [.ref x, .ref y] ∧ Lot K H x ws ∧ Lot K H y us ∧ Q (.bl (decide (ws = us))) H
def spTAnd (K : PySem.W.Frag) (p : Str → List Str → Bool) : Sp := fun vs H Q _ => ∃ (x y : Addr) (ws us : List Str), vs = [.ref x, .ref y] ∧ Lot K H x ws ∧ Lot K H y us ∧ ∀ z H', Same H H' → Lot K H' z (ws.filter fun w => p w us) → Q (.ref z) H'
def spTOr (K : PySem.W.Frag) : Sp := fun vs H Q E => ∃ (x y : Addr) (ws us : List Str), vs = [.ref x, .ref y] ∧ Lot K H x ws ∧ Lot K H y us ∧ ∀ hs, DistOf (ws ++ us) hs → (hs.length ≤ 16 → ∀ z H', Same H H' → Lot K H' z hs → Q (.ref z) H') ∧
  (16 < hs.length → ∀ d H', Same H H' → H d = none → H' d = some (.xd [("kind", .str "word")]) → E (.ref (He.ga K "TooMany")) (some d) H')
def spHalf (K : PySem.W.Frag) : Sp := fun vs H Q _ => ∃ (x : Addr) (z : Str) (ws : List Str), vs = [.ref x, .str z] ∧ Lot K H x ws ∧ z.length ≤ 1000 ∧ ∀ p H', Same H H' → H p = none → H' p = some (.lst (mi (half ws z))) → Q (.ref p) H'
def spWeight (K : PySem.W.Frag) : Sp := fun vs H Q E => ∃ (x : Addr) (v : V) (r : Option Int) (ws : List Str), vs = [.ref x, v] ∧ Lot K H x ws ∧ JudgedBy H v r ∧ (r = none → ∀ z, v = .str z → ∀ H', Same H H' → Q (.int ((half ws z).length : Nat)) H') ∧
  (∀ i, r = some i → ∀ d H', Same H H' → H d = none → H' d = some (.xd [("place", .int i)]) → E (.ref (He.ga K "BadText")) (some d) H')
def spTCall (K : PySem.W.Frag) : Sp := fun vs H Q E => ∃ (x : Addr) (v : V) (r : Option Int) (ws : List Str), vs = [.ref x, v] ∧ Lot K H x ws ∧ JudgedBy H v r ∧ (r = none → ∀ z, v = .str z → ∀ q H', Same H H' → H q = none → H' q = some (.tup (mi (by2 (half ws z)))) → Q (.ref q) H') ∧
  (∀ i, r = some i → ∀ d H', Same H H' → H d = none → H' d = some (.xd [("place", .int i)]) → E (.ref (He.ga K "BadText")) (some d) H')
theorem mem_plus {L : List Str} {z f : Str} : f ∈ plus L z ↔ f ∈ L ∨ f = z := by
  unfold plus
  split
  · rename_i h
    exact ⟨.inl, fun k => k.elim id fun e => e ▸ h⟩
  · rw [List.mem_cons]
    exact or_comm
theorem nodup_plus {L : List Str} {z : Str} (h : L.Nodup) : (plus L z).Nodup := by
  unfold plus
  split
  · exact h
  · rename_i k
    exact List.nodup_cons.mpr ⟨k, h⟩
theorem len_plus (L : List Str) (z : Str) : (plus L z).length ≤ L.length + 1 := by
  unfold plus
  split
  · omega
  · exact Nat.le_refl _
theorem sum_take (l : List Str) (i : Nat) : ((l.take i).map (·.length)).sum ≤ (l.map (·.length)).sum := by
  have e : l.map (·.length) = (l.take i).map (·.length) ++ (l.drop i).map (·.length) := by rw [← List.map_append, List.take_append_drop]
  rw [e, List.sum_append]
  omega
theorem sorted_filter {ws : List Str} (h : sortedS ws = true) (nd : ws.Nodup) (p : Str → Bool) {ys : List Str} (d : DistOf (ws.filter p) ys) : ys = ws.filter p :=
  pw_uniq (sorted_pw d.1) ((sorted_pw h).filter _) ((List.perm_ext_iff_of_nodup d.2.1 (nd.filter _)).mpr d.2.2)
theorem mk_lot {K : PySem.W.Frag} {H1 : Hp} {pw : Addr} {zs : List Str} {Q : Addr → Hp → Prop} {E : XK} (hq : SqA K H1 pw (ms zs)) (hl : zs.length ≤ 500) (hw : ∀ z ∈ zs, isSW z = true)
    (q : ∀ ws, DistOf zs ws → (ws.length ≤ 16 → ∀ x H', Same H1 H' → Lot K H' x ws → Q x H') ∧ (16 < ws.length → ∀ d H', Same H1 H' → H1 d = none → H' d = some (.xd [("kind", .str "word")]) → E (.ref (He.ga K "TooMany")) (some d) H')) :
    ∀ (x dx : Addr), H1 x = none → H1 dx = none → dx ≠ x → spLot K [.ref x, .ref pw] (upd (upd H1 dx (.own x)) x (.ins (He.ga K "Lot") dx [])) (fun v H2 => v = .non ∧ Q x H2) E := by
  intro z dz nz ndz nez
  have sx : Same H1 (upd (upd H1 dz (.own z)) z (.ins (He.ga K "Lot") dz [])) := fun b o e => by
    rw [upd_ne (ne_of_none e nz), upd_ne (ne_of_none e ndz)]
    exact e
  have sk : ∀ {H2 : Hp}, Kx z (upd (upd H1 dz (.own z)) z (.ins (He.ga K "Lot") dz [])) H2 → Same H1 H2 := fun hk b o e => hk b o (ne_of_none e nz) (sx b o e)
  refine ⟨z, dz, pw, ms zs, rfl, upd_same, hq.same sx, by rw [List.length_map]; exact hl, .inr ⟨zs, rfl, hw, fun ws hd => ⟨fun h16 H2 hk hL => ⟨rfl, (q ws hd).1 h16 z H2 (sk hk) hL⟩, fun h16 d H2 hk nd ed => (q ws hd).2 h16 d H2 (sk hk) (sx.free nd) ed⟩⟩⟩
theorem LotOk.filter {ws : List Str} (o : LotOk ws) (p : Str → Bool) : (ws.filter p).length ≤ 16 ∧ ∀ z ∈ ws.filter p, isSW z = true := ⟨Nat.le_trans (List.length_filter_le _ _) o.lt, fun z hz => o.ok z (List.mem_filter.mp hz).1⟩
def spChoiceS : Sp := fun vs H Q _ => ∃ (b : Addr) (z : Str), vs = [.ref b, .str z] ∧ Bag H b ∧ 0 < z.length ∧ z.length ≤ 100000 ∧ ∀ (c : Nat) (H' : Hp), c ∈ z.cps.toList → Kp b H H' → Q (.str (S1 c)) H'
def spSigns : Sp := fun vs H Q _ => vs = [] ∧ Q (.str signs2) H
def spSign : Sp := fun vs H Q _ => ∃ b : Addr, vs = [.ref b] ∧ Bag H b ∧ ∀ (c : Nat) (H' : Hp), c ∈ signs2.cps.toList → Kp b H H' → Q (.str (S1 c)) H'
def spNumbers : Sp := fun vs H Q _ => ∃ (a d : Addr) (ns : List Int), vs = [.ref a, .ref d] ∧ H a = some (.tup (ns.map V.int)) ∧ H d = some (.lst (ns.map V.int)) ∧ ns.length ≤ 1000 ∧ ∀ H', Same H H' → Q (.bl true) H'
def spInteger : Sp := fun vs H Q _ => ∃ i : Int, vs = [.int i] ∧ Q (.bl true) H
def spWordB : Sp := fun vs H Q _ => ∃ b : Addr, vs = [.ref b] ∧ Bag H b ∧ ∀ (z : Str) (H' : Hp), isSW z = true → Kp b H H' → Q (.str z) H'
def spHalves : Sp := fun vs H Q _ => ∃ (p : Addr) (ws : List Str) (z : Str), vs = [.ref p, .str z] ∧ H p = some (.lst (ms ws)) ∧ z.length ≤ 1000 ∧ ∀ q H', Same H H' → H q = none → H' q = some (.lst (mi (half ws z))) → Q (.ref q) H'
def spBytes : Sp := fun vs H Q _ => ∃ (p : Addr) (l : List Int), vs = [.ref p] ∧ H p = some (.lst (mi l)) ∧ l.length ≤ 10000 ∧ ∀ q H', Same H H' → H q = none → H' q = some (.lst (mi (by2 l))) → Q (.ref q) H'
def spRowW : Sp := fun vs H Q _ => ∃ (b p : Addr) (l : List Str), vs = [.ref b, .ref p] ∧ Bag H b ∧ H p = some (.lst (ms l)) ∧ l.length ≤ 100 ∧ (∀ z ∈ l, isSW z = true) ∧ ∀ q ys H', Kp b H H' → H q = none → H' q = some (.lst (ms ys)) → ys.length ≤ 20 → (∀ z ∈ ys, isSW z = true) → Q (.ref q) H'
def spText : Sp := fun vs H Q _ => ∃ (b p : Addr) (l : List Str), vs = [.ref b, .ref p] ∧ Bag H b ∧ H p = some (.lst (ms l)) ∧ l.length ≤ 100 ∧ (∀ z ∈ l, isSW z = true) ∧ ∀ (z : Str) (H' : Hp), TextOk z → Kp b H H' → Q (.str z) H'
theorem isSW_of {z : Str} (h1 : 3 ≤ z.length) (h2 : z.length ≤ 20) (h : ∀ c ∈ z.cps.toList, c ∈ letS.cps.toList) : isSW z = true := by
  unfold isSW
  rw [decide_eq_true h1, decide_eq_true h2, List.all_eq_true.mpr fun c hc => decide_eq_true (h c hc)]
  rfl
def SgOk (z : Str) : Prop := ∀ c ∈ z.cps.toList, c ∈ signs2.cps.toList
theorem SgOk.app {a b : Str} (ha : SgOk a) (hb : SgOk b) : SgOk (a ++ b) := fun c hc => by
  rw [list_app, List.mem_append] at hc
  exact hc.elim (ha c) (hb c)
theorem let_sign : ∀ c ∈ letS.cps.toList, c ∈ signs2.cps.toList := by decide +kernel
/-! ### reading half bytes -/
/-- a sign of a row -/
def rowSg (r : Str) (k : Int) : Str := S1 (r.cps.toList.getD k.toNat 0)
def othersS : Str := "ABCDEFGHIJKLMNOPQRSTUVWXYZ\"#$&()*+/:;<=>@" ++ "[\\]^_`{|}~"
def fL (n : Int) : Option Str := if n.toNat ∈ othersS.cps.toList then some (S1 n.toNat) else none
def fP (n : Int) : Option Str := if n.toNat ∈ signs1.cps.toList then some (S1 n.toNat) else none
/-- the next piece and its half bytes; an empty piece is the end -/
def nx (f : Int → Option Str) (ws : List Str) : List Int → Option (Str × Nat)
  | [] => none
  | a :: r => if a < 12 then some (rowSg rowA a, 1) else match r with
    | [] => none
    | b :: r2 => if a = 12 then some (rowSg rowB b, 2) else if a = 13 then some (rowSg rowC b, 2) else if a = 14 then (ws[b.toNat]?).map fun w => (w, 2) else match r2 with
      | [] => none
      | c :: _ => if b = 0 ∧ c = 0 then some ("", 3) else (f (b * 16 + c)).map fun z => (z, 3)
def rdL (ws : List Str) : Nat → List Int → Str → Nat → Option (Str × Nat)
  | 0, _, _, _ => none
  | k + 1, h, t, p => match nx fL ws h with
    | none => none
    | some (z, n) => if z = "" then some (t, p + n) else rdL ws k (h.drop n) (t ++ z) (p + n)
def rdP (ws : List Str) : Nat → List Int → Str → Nat → Option (Str × Nat)
  | 0, _, _, _ => none
  | k + 1, h, t, p => if t.length ≤ 200 then match nx fP ws h with
    | none => none
    | some (z, n) => if z = "" then some (t, p + n) else rdP ws k (h.drop n) (t ++ z) (p + n)
    else none
def nib (l : List Int) : List Int := (l.map fun x => [x / 16, x % 16]).flatten
/-- what is told of the bytes of a row from a place on -/
def rdR (ws : List Str) (row : List Int) (at_ : Nat) : Option (Str × Nat) :=
  match rdL ws (nib (row.drop at_)).length (nib (row.drop at_)) "" 0 with
  | none => none
  | some (t, p) => if t.length ≤ 200 ∧ by2 (half ws t) = (row.drop at_).take ((p + 1) / 2) then some (t, at_ + (p + 1) / 2) else none
def rdB (ws : List Str) (row : List Int) (at_ : Nat) : Option (Str × Nat) :=
  match rdP ws 202 (nib (row.drop at_)) "" 0 with
  | none => none
  | some (t, p) => if by2 (half ws t) = (row.drop at_).take ((p + 1) / 2) then some (t, at_ + (p + 1) / 2) else none
theorem others_sub : ∀ c ∈ othersS.cps.toList, c ∈ signs1.cps.toList := by decide +kernel
theorem fL_fP {n : Int} {z : Str} (h : fL n = some z) : fP n = some z := by
  unfold fL at h
  split at h
  · rename_i k
    unfold fP
    rw [if_pos (others_sub _ k)]
    exact h
  · cases h
theorem nx_sub {ws : List Str} : ∀ {h : List Int} {x : Str × Nat}, nx fL ws h = some x → nx fP ws h = some x
  | [], _, e => by cases e
  | a :: r, x, e => by
    dsimp only [nx] at e ⊢
    split at e
    · rename_i h1
      rw [if_pos h1]
      exact e
    · rename_i h1
      rw [if_neg h1]
      cases r with
      | nil => cases e
      | cons b r2 =>
        dsimp only at e ⊢
        split at e
        · rename_i h2
          rw [if_pos h2]
          exact e
        · rename_i h2
          rw [if_neg h2]
          split at e
          · rename_i h3
            rw [if_pos h3]
            exact e
          · rename_i h3
            rw [if_neg h3]
            split at e
            · rename_i h4
              rw [if_pos h4]
              exact e
            · rename_i h4
              rw [if_neg h4]
              cases r2 with
              | nil => cases e
              | cons c r3 =>
                dsimp only at e ⊢
                split at e
                · rename_i h5
                  rw [if_pos h5]
                  exact e
                · rename_i h5
                  rw [if_neg h5]
                  cases q : fL (b * 16 + c) with
                  | none => rw [q] at e; cases e
                  | some z =>
                    rw [q] at e
                    rw [fL_fP q]
                    exact e
theorem S1_ne (c : Nat) : S1 c ≠ "" := fun e => by
  have := congrArg (fun z : Str => z.cps.size) e
  exact absurd (show (1 : Nat) = 0 from this) (by decide)
/-- what is read is of signs, and takes no more than there is -/
theorem nx_ok {f : Int → Option Str} {ws : List Str} (hf : ∀ n z, f n = some z → ∃ c, z = S1 c ∧ c ∈ signs1.cps.toList) (hw : ∀ w ∈ ws, isSW w = true) {h : List Int} (hh : ∀ x ∈ h, 0 ≤ x ∧ x < 16) {z : Str} {n : Nat} (e : nx f ws h = some (z, n)) :
    n ≤ h.length ∧ 1 ≤ n ∧ z.length ≤ 20 ∧ (z ≠ "" → 1 ≤ z.length) ∧ ∀ c ∈ z.cps.toList, c ∈ signs1.cps.toList := by
  have sg : ∀ (r : Str) (k : Int), (∀ c ∈ r.cps.toList, c ∈ signs1.cps.toList) → 0 ≤ k → k < r.cps.toList.length → ∀ c ∈ (rowSg r k).cps.toList, c ∈ signs1.cps.toList := by
    intro r k hr h0 h1 c hc
    have e : c = r.cps.toList.getD k.toNat 0 := List.mem_singleton.mp hc
    have hl : k.toNat < r.cps.toList.length := by omega
    rw [e, List.getD_eq_getElem?_getD, List.getElem?_eq_getElem hl]
    exact hr _ (List.getElem_mem hl)
  have one : ∀ (r : Str) (k : Int), (rowSg r k).length = 1 := fun _ _ => rfl
  have ha : ∀ c ∈ rowA.cps.toList, c ∈ signs1.cps.toList := by decide +kernel
  have hb : ∀ c ∈ rowB.cps.toList, c ∈ signs1.cps.toList := by decide +kernel
  have hc : ∀ c ∈ rowC.cps.toList, c ∈ signs1.cps.toList := by decide +kernel
  cases h with
  | nil => cases e
  | cons a r =>
    have a1 := hh a List.mem_cons_self
    dsimp only [nx] at e
    split at e
    · rename_i h1
      cases e
      exact ⟨by simp, Nat.le_refl _, by rw [one]; decide, fun _ => by rw [one]; decide, sg _ _ ha a1.1 h1⟩
    · cases r with
      | nil => cases e
      | cons b r2 =>
        have b1 := hh b (List.mem_cons_of_mem _ List.mem_cons_self)
        dsimp only at e
        split at e
        · cases e
          exact ⟨by simp, by decide, by rw [one]; decide, fun _ => by rw [one]; decide, sg _ _ hb b1.1 b1.2⟩
        · split at e
          · cases e
            exact ⟨by simp, by decide, by rw [one]; decide, fun _ => by rw [one]; decide, sg _ _ hc b1.1 b1.2⟩
          · split at e
            · cases q : ws[b.toNat]? with
              | none => rw [q] at e; cases e
              | some w =>
                rw [q] at e
                cases e
                have hm := hw z (List.mem_of_getElem? q)
                have := isSW_len hm
                refine ⟨by simp, by decide, this.2, fun _ => by omega, fun c hc => signs_sub c (let_sign c (isSW_mem hm c hc))⟩
            · cases r2 with
              | nil => cases e
              | cons c r3 =>
                dsimp only at e
                split at e
                · cases e
                  exact ⟨by simp, by decide, Nat.zero_le _, fun k => absurd rfl k, fun c hc => by cases hc⟩
                · cases q : f (b * 16 + c) with
                  | none => rw [q] at e; cases e
                  | some y =>
                    rw [q] at e
                    cases e
                    obtain ⟨d, rfl, hd⟩ := hf _ _ q
                    exact ⟨by simp, by decide, show 1 ≤ 20 by decide, fun _ => Nat.le_refl 1, fun c hc => by rw [List.mem_singleton.mp hc]; exact hd⟩
theorem fL_ok : ∀ n z, fL n = some z → ∃ c, z = S1 c ∧ c ∈ signs1.cps.toList := fun n z h => by
  unfold fL at h
  split at h
  · rename_i k
    cases h
    exact ⟨_, rfl, others_sub _ k⟩
  · cases h
theorem fP_ok : ∀ n z, fP n = some z → ∃ c, z = S1 c ∧ c ∈ signs1.cps.toList := fun n z h => by
  unfold fP at h
  split at h
  · rename_i k
    cases h
    exact ⟨_, rfl, k⟩
  · cases h
theorem dr16 {h : List Int} (hh : ∀ x ∈ h, 0 ≤ x ∧ x < 16) (n : Nat) : ∀ x ∈ h.drop n, 0 ≤ x ∧ x < 16 := fun x hx => hh x (List.mem_of_mem_drop hx)
theorem rdL_len {ws : List Str} : ∀ {k : Nat} {h : List Int} {t : Str} {p : Nat} {r : Str × Nat}, rdL ws k h t p = some r → t.length ≤ r.1.length
  | 0, _, _, _, _, e => by cases e
  | k + 1, h, t, p, r, e => by
    unfold rdL at e
    split at e
    · cases e
    · split at e
      · cases e
        exact Nat.le_refl _
      · have := rdL_len e
        rw [len_app] at this
        omega
theorem sim {ws : List Str} (hw : ∀ w ∈ ws, isSW w = true) : ∀ {k : Nat} {h : List Int} {t : Str} {p : Nat} {r : Str × Nat} {m : Nat}, (∀ x ∈ h, 0 ≤ x ∧ x < 16) → rdL ws k h t p = some r → r.1.length ≤ 200 → 202 ≤ t.length + m → rdP ws m h t p = some r
  | 0, _, _, _, _, _, _, e, _, _ => by cases e
  | k + 1, h, t, p, r, m, hh, e, hr, hm => by
    have lt := rdL_len e
    obtain ⟨m, rfl⟩ : ∃ m', m = m' + 1 := ⟨m - 1, by omega⟩
    unfold rdL at e
    unfold rdP
    rw [if_pos (by omega)]
    cases q : nx fL ws h with
    | none => rw [q] at e; cases e
    | some x =>
      obtain ⟨z, n⟩ := x
      rw [q] at e
      rw [nx_sub q]
      dsimp only at e ⊢
      split at e
      · rename_i hz
        rw [if_pos hz]
        exact e
      · rename_i hz
        rw [if_neg hz]
        obtain ⟨_, _, _, l1, _⟩ := nx_ok fL_ok hw hh q
        have := l1 hz
        exact sim hw (dr16 hh n) e hr (by rw [len_app]; omega)
theorem rdP_ok {ws : List Str} (hw : ∀ w ∈ ws, isSW w = true) : ∀ {m : Nat} {h : List Int} {t : Str} {p : Nat} {r : Str × Nat}, (∀ x ∈ h, 0 ≤ x ∧ x < 16) → (∀ c ∈ t.cps.toList, c ∈ signs1.cps.toList) → rdP ws m h t p = some r → r.1.length ≤ 200 ∧ (∀ c ∈ r.1.cps.toList, c ∈ signs1.cps.toList) ∧ r.2 ≤ p + h.length
  | 0, _, _, _, _, _, _, e => by cases e
  | m + 1, h, t, p, r, hh, ht, e => by
    unfold rdP at e
    split at e
    · rename_i hl
      cases q : nx fP ws h with
      | none => rw [q] at e; cases e
      | some x =>
        obtain ⟨z, n⟩ := x
        rw [q] at e
        dsimp only at e
        obtain ⟨n1, _, _, _, hz⟩ := nx_ok fP_ok hw hh q
        split at e
        · cases e
          exact ⟨hl, ht, by dsimp only; omega⟩
        · have := rdP_ok hw (dr16 hh n) (fun c hc => by rw [list_app, List.mem_append] at hc; exact hc.elim (ht c) (hz c)) e
          rw [List.length_drop] at this
          exact ⟨this.1, this.2.1, by omega⟩
    · cases e
/-! ### bytes and half bytes -/
def by1 : List Int → List Int
  | a :: b :: r => (a * 16 + b) :: by1 r
  | _ => []
theorem by1_map : ∀ (n : Nat) (m : List Int), m.length = 2 * n → (List.range n).map (fun k => m.getD (2 * k) 0 * 16 + m.getD (2 * k + 1) 0) = by1 m
  | 0, m, h => by
    cases m with
    | nil => rfl
    | cons a r => rw [List.length_cons] at h; omega
  | n + 1, m, h => by
    match m, h with
    | [], h => rw [List.length_nil] at h; omega
    | [a], h => rw [List.length_singleton] at h; omega
    | a :: b :: r, h =>
      rw [List.length_cons, List.length_cons] at h
      rw [List.range_succ_eq_map, List.map_cons, List.map_map, by1, ← by1_map n r (by omega)]
      rfl
theorem nib_by1 : ∀ (n : Nat) (m : List Int), m.length = 2 * n → (∀ x ∈ m, 0 ≤ x ∧ x < 16) → nib (by1 m) = m
  | 0, m, h, _ => by
    cases m with
    | nil => rfl
    | cons a r => rw [List.length_cons] at h; omega
  | n + 1, m, h, hm => by
    match m, h, hm with
    | [], h, _ => rw [List.length_nil] at h; omega
    | [a], h, _ => rw [List.length_singleton] at h; omega
    | a :: b :: r, h, hm =>
      rw [List.length_cons, List.length_cons] at h
      have a1 := hm a List.mem_cons_self
      have b1 := hm b (List.mem_cons_of_mem _ List.mem_cons_self)
      have ih := nib_by1 n r (by omega) fun x hx => hm x (List.mem_cons_of_mem _ (List.mem_cons_of_mem _ hx))
      unfold nib at ih ⊢
      rw [by1, List.map_cons, List.flatten_cons, ih]
      show (a * 16 + b) / 16 :: (a * 16 + b) % 16 :: r = a :: b :: r
      rw [show (a * 16 + b) / 16 = a by omega, show (a * 16 + b) % 16 = b by omega]
theorem pad2_16 {l : List Int} (h : ∀ x ∈ l, 0 ≤ x ∧ x < 16) : ∀ x ∈ pad2 l, 0 ≤ x ∧ x < 16 := fun x hx => by
  unfold pad2 at hx
  split at hx
  · rcases List.mem_append.mp hx with hx | hx
    · exact h x hx
    · rw [List.mem_singleton.mp hx]
      decide
  · exact h x hx
theorem nib_by2 {l : List Int} (h : ∀ x ∈ l, 0 ≤ x ∧ x < 16) : nib (by2 l) = pad2 l := by
  have e := pad2_len l
  unfold by2
  rw [by1_map _ _ e]
  exact nib_by1 _ _ e (pad2_16 h)
theorem nib_app (a b : List Int) : nib (a ++ b) = nib a ++ nib b := by
  unfold nib
  rw [List.map_append, List.flatten_append]
theorem nib_len (l : List Int) : (nib l).length = 2 * l.length := by
  induction l with
  | nil => rfl
  | cons a l ih =>
    unfold nib at ih ⊢
    rw [List.map_cons, List.flatten_cons, List.length_append, ih]
    show 2 + 2 * l.length = 2 * (l.length + 1)
    omega
theorem nib_16 {l : List Int} (h : ∀ x ∈ l, 0 ≤ x ∧ x < 256) : ∀ x ∈ nib l, 0 ≤ x ∧ x < 16 := fun x hx => by
  unfold nib at hx
  obtain ⟨m, hm, hx⟩ := List.mem_flatten.mp hx
  obtain ⟨y, hy, rfl⟩ := List.mem_map.mp hm
  have := h y hy
  simp only [List.mem_cons, List.not_mem_nil, or_false] at hx
  rcases hx with rfl | rfl <;> omega
theorem nib_at : ∀ (l : List Int) (p : Nat), (nib l)[p]? = (l[p / 2]?).map fun x => if p % 2 = 1 then x % 16 else x / 16
  | [], p => by simp [nib]
  | a :: l, p => by
    have e : nib (a :: l) = a / 16 :: a % 16 :: nib l := rfl
    rw [e]
    match p with
    | 0 => rfl
    | 1 => rfl
    | p + 2 =>
      have ih := nib_at l p
      rw [List.getElem?_cons_succ, List.getElem?_cons_succ, ih, show (p + 2) / 2 = p / 2 + 1 by omega, List.getElem?_cons_succ, show (p + 2) % 2 = p % 2 by omega]
/-! ### what packing gives is read back -/
def okCode (c : Nat) : Bool :=
  (match codeL c with
  | [a] => decide (a < 12) && decide (rowA.cps.toList.getD a.toNat 0 = c)
  | [a, b] => (decide (a = 12) && decide (rowB.cps.toList.getD b.toNat 0 = c)) || (decide (a = 13) && decide (rowC.cps.toList.getD b.toNat 0 = c))
  | [a, b, d] => decide (a = 15) && !(decide (b = 0) && decide (d = 0)) && decide (b * 16 + d = c) && decide (c ∈ othersS.cps.toList)
  | _ => false) && (codeL c).all fun x => decide (0 ≤ x) && decide (x < 16)
theorem codes_ok : ∀ c ∈ signs1.cps.toList, okCode c = true := by decide +kernel
theorem code_16 {c : Nat} (h : c ∈ signs1.cps.toList) : ∀ x ∈ codeL c, 0 ≤ x ∧ x < 16 := fun x hx => by
  have := codes_ok c h
  unfold okCode at this
  simp only [Bool.and_eq_true] at this
  have := List.all_eq_true.mp this.2 x hx
  simpa using this
theorem nx_code {ws : List Str} {c : Nat} (h : c ∈ signs1.cps.toList) (rest : List Int) : nx fL ws (codeL c ++ rest) = some (S1 c, (codeL c).length) := by
  have := codes_ok c h
  unfold okCode at this
  rw [Bool.and_eq_true] at this
  have k := this.1
  clear this
  split at k
  · rename_i a e
    simp only [Bool.and_eq_true, decide_eq_true_eq] at k
    rw [e]
    show nx fL ws (a :: rest) = _
    dsimp only [nx]
    rw [if_pos k.1]
    show some (S1 _, 1) = _
    rw [k.2]
    rfl
  · rename_i a b e
    simp only [Bool.or_eq_true, Bool.and_eq_true, decide_eq_true_eq] at k
    rw [e]
    show nx fL ws (a :: b :: rest) = _
    dsimp only [nx]
    rcases k with ⟨rfl, k⟩ | ⟨rfl, k⟩
    · rw [if_neg (by decide), if_pos rfl]
      show some (S1 _, 2) = _
      rw [k]
      rfl
    · rw [if_neg (by decide), if_neg (by decide), if_pos rfl]
      show some (S1 _, 2) = _
      rw [k]
      rfl
  · rename_i a b d e
    simp only [Bool.and_eq_true, Bool.not_eq_true', Bool.and_eq_false_iff, decide_eq_true_eq, decide_eq_false_iff_not] at k
    obtain ⟨⟨⟨rfl, k1⟩, k2⟩, k3⟩ := k
    rw [e]
    show nx fL ws (15 :: b :: d :: rest) = _
    dsimp only [nx]
    rw [if_neg (by decide), if_neg (by decide), if_neg (by decide), if_neg (by decide)]
    rw [if_neg (fun q => k1.elim (fun f => f q.1) fun f => f q.2), k2]
    unfold fL
    rw [if_pos (by rw [Int.toNat_natCast]; exact k3)]
    rfl
  · cases k
theorem rd_sign {ws : List Str} {c : Nat} (h : c ∈ signs1.cps.toList) (k : Nat) (rest : List Int) (t : Str) (p : Nat) : rdL ws (k + 1) (codeL c ++ rest) t p = rdL ws k rest (t ++ S1 c) (p + (codeL c).length) := by
  rw [rdL, nx_code h]
  dsimp only
  rw [if_neg (S1_ne c), List.drop_left]
theorem rd_signs {ws : List Str} (k : Nat) (rest : List Int) : ∀ (l : List Nat) (t : Str) (p : Nat), (∀ c ∈ l, c ∈ signs1.cps.toList) → rdL ws (k + l.length) ((l.map codeL).flatten ++ rest) t p = rdL ws k rest (t ++ mkS l) (p + ((l.map codeL).flatten).length)
  | [], t, p, _ => by
    have e : t ++ mkS [] = t := str_ext (by rw [list_app]; simp)
    rw [e]
    rfl
  | c :: l, t, p, h => by
    rw [List.map_cons, List.flatten_cons, List.append_assoc, List.length_cons, ← Nat.add_assoc, rd_sign (h c List.mem_cons_self), rd_signs k rest l _ _ fun d hd => h d (List.mem_cons_of_mem _ hd), List.length_append, Nat.add_assoc]
    congr 1
    exact str_ext (by rw [list_app, list_app, list_app]; simp)
theorem rd_piece {ws : List Str} {z : Str} (hz : z ∉ ws → ∀ c ∈ z.cps.toList, c ∈ signs1.cps.toList) (h1 : 1 ≤ z.length) : ∃ n, n ≤ (half1 ws z).length ∧ ∀ (k : Nat) (rest : List Int) (t : Str) (p : Nat), rdL ws (k + n) (half1 ws z ++ rest) t p = rdL ws k rest (t ++ z) (p + (half1 ws z).length) := by
  unfold half1
  by_cases hm : z ∈ ws
  · rw [if_pos hm]
    refine ⟨1, show 1 ≤ 2 by decide, fun k rest t p => ?_⟩
    rw [rdL]
    have e : nx fL ws ([14, ((ws.idxOf z : Nat) : Int)] ++ rest) = some (z, 2) := by
      show nx fL ws (14 :: ((ws.idxOf z : Nat) : Int) :: rest) = some (z, 2)
      dsimp only [nx]
      rw [if_neg (by decide), if_neg (by decide), if_neg (by decide), if_pos rfl, Int.toNat_natCast, List.getElem?_eq_getElem (List.idxOf_lt_length_of_mem hm), List.getElem_idxOf]
      rfl
    rw [e]
    dsimp only
    rw [if_neg fun (q : z = "") => by rw [q] at h1; exact absurd h1 (by decide)]
    rfl
  · rw [if_neg hm]
    refine ⟨z.cps.toList.length, ?_, ?_⟩
    · unfold clist
      have : ∀ l : List Nat, (∀ c ∈ l, c ∈ signs1.cps.toList) → l.length ≤ ((l.map codeL).flatten).length := by
        intro l
        induction l with
        | nil => exact fun _ => Nat.le_refl _
        | cons c l ih =>
          intro h
          have := ih fun d hd => h d (List.mem_cons_of_mem _ hd)
          have c1 : 1 ≤ (codeL c).length := by
            have := codes_ok c (h c List.mem_cons_self)
            unfold okCode at this
            rw [Bool.and_eq_true] at this
            have k := this.1
            cases q : codeL c with
            | nil => rw [q] at k; cases k
            | cons a b => simp
          rw [List.map_cons, List.flatten_cons, List.length_append, List.length_cons]
          omega
      exact this _ (hz hm)
    · intro k rest t p
      unfold clist
      rw [rd_signs k rest _ t p (hz hm)]
theorem rd_pieces {ws : List Str} : ∀ (l : List Str), (∀ z ∈ l, 1 ≤ z.length ∧ (z ∉ ws → ∀ c ∈ z.cps.toList, c ∈ signs1.cps.toList)) →
    ∃ n, n ≤ ((l.map (half1 ws)).flatten).length ∧ ∀ (k : Nat) (rest : List Int) (t : Str) (p : Nat), rdL ws (k + n) ((l.map (half1 ws)).flatten ++ rest) t p = rdL ws k rest (t ++ mkS ((l.map fun z => z.cps.toList).flatten)) (p + ((l.map (half1 ws)).flatten).length)
  | [], _ => ⟨0, Nat.le_refl _, fun k rest t p => by
    have e : t ++ mkS [] = t := str_ext (by rw [list_app]; simp)
    show rdL ws (k + 0) rest t p = rdL ws k rest (t ++ mkS []) (p + 0)
    rw [e]
    rfl⟩
  | z :: l, h => by
    obtain ⟨h1, hz⟩ := h z List.mem_cons_self
    obtain ⟨n, hn, e⟩ := rd_pieces l fun y hy => h y (List.mem_cons_of_mem _ hy)
    obtain ⟨n1, hn1, e1⟩ := rd_piece hz h1
    refine ⟨n + n1, ?_, fun k rest t p => ?_⟩
    · rw [List.map_cons, List.flatten_cons, List.length_append]
      omega
    · rw [List.map_cons, List.flatten_cons, List.append_assoc, ← Nat.add_assoc, e1, e, List.length_append, List.map_cons, List.flatten_cons, Nat.add_assoc]
      congr 1
      exact str_ext (by rw [list_app, list_app, list_app]; simp)
theorem pg_cat : ∀ (l run : List Nat), ((pg run l).map fun z => z.cps.toList).flatten = run ++ l
  | [], run => by
    unfold pg runS
    split
    · rename_i h
      rw [h]
      rfl
    · simp
  | c :: l, run => by
    unfold pg
    split
    · rw [pg_cat l]
      simp
    · rw [List.map_append, List.flatten_append, List.map_cons, List.flatten_cons, pg_cat l]
      unfold runS
      split
      · rename_i h
        rw [h]
        rfl
      · simp
theorem pieces_cat (z : Str) : ((pieces z).map fun y => y.cps.toList).flatten = z.cps.toList := by
  unfold pieces
  rw [pg_cat]
  rfl
theorem pieces_sg {z : Str} (h : ∀ c ∈ z.cps.toList, c ∈ signs1.cps.toList) {y : Str} (hy : y ∈ pieces z) : ∀ c ∈ y.cps.toList, c ∈ signs1.cps.toList := fun c hc => by
  refine h c ?_
  rw [← pieces_cat z]
  exact List.mem_flatten.mpr ⟨_, List.mem_map.mpr ⟨y, hy, rfl⟩, hc⟩
theorem half_16 {ws : List Str} (hw : LotOk ws) {z : Str} (h : ∀ c ∈ z.cps.toList, c ∈ signs1.cps.toList) : ∀ x ∈ half ws z, 0 ≤ x ∧ x < 16 := fun x hx => by
  unfold half at hx
  rcases List.mem_append.mp hx with hx | hx
  · obtain ⟨m, hm, hx⟩ := List.mem_flatten.mp hx
    obtain ⟨y, hy, rfl⟩ := List.mem_map.mp hm
    unfold half1 at hx
    split at hx
    · rename_i hm
      have := List.idxOf_lt_length_of_mem hm
      have := hw.lt
      simp only [List.mem_cons, List.not_mem_nil, or_false] at hx
      rcases hx with rfl | rfl <;> omega
    · unfold clist at hx
      obtain ⟨m, hm, hx⟩ := List.mem_flatten.mp hx
      obtain ⟨c, hc, rfl⟩ := List.mem_map.mp hm
      exact code_16 (pieces_sg h hy c hc) x hx
  · simp only [List.mem_cons, List.not_mem_nil, or_false] at hx
    rcases hx with rfl | rfl | rfl <;> omega
theorem read_half {ws : List Str} {z : Str} (h : ∀ c ∈ z.cps.toList, c ∈ signs1.cps.toList) (tail : List Int) (m : Nat) (hm : (half ws z).length ≤ m) : rdL ws m (half ws z ++ tail) "" 0 = some (z, (half ws z).length) := by
  obtain ⟨n, hn, e⟩ := rd_pieces (ws := ws) (pieces z) fun y hy => ⟨(pieces_len hy).1, fun _ => pieces_sg h hy⟩
  have l3 : (half ws z).length = (((pieces z).map (half1 ws)).flatten).length + 3 := by
    unfold half
    rw [List.length_append]
    rfl
  obtain ⟨k, rfl⟩ : ∃ k, m = k + 1 + n := ⟨m - 1 - n, by omega⟩
  rw [l3]
  unfold half
  rw [List.append_assoc, e, pieces_cat, rdL]
  have e0 : nx fL ws ([15, 0, 0] ++ tail) = some (("" : Str), 3) := by
    show nx fL ws (15 :: 0 :: 0 :: tail) = _
    dsimp only [nx]
    rw [if_neg (by decide), if_neg (by decide), if_neg (by decide), if_neg (by decide)]
    rw [if_pos ⟨rfl, rfl⟩]
  rw [e0]
  dsimp only
  rw [if_pos rfl]
  congr 1
  refine Prod.ext (str_ext ?_) (by dsimp only; omega)
  rw [list_app]
  rfl
theorem rdB_eq {ws : List Str} (hw : LotOk ws) {row : List Int} (hr : ∀ x ∈ row, 0 ≤ x ∧ x < 256) (at_ : Nat) : rdB ws row at_ = rdR ws row at_ := by
  have h16 : ∀ x ∈ nib (row.drop at_), 0 ≤ x ∧ x < 16 := nib_16 fun x hx => hr x (List.mem_of_mem_drop hx)
  have hl := nib_len (row.drop at_)
  unfold rdB rdR
  generalize hrow : row.drop at_ = r at *
  cases q : rdL ws (nib r).length (nib r) "" 0 with
  | some x =>
    obtain ⟨t, p⟩ := x
    dsimp only
    by_cases h2 : t.length ≤ 200
    · rw [sim hw.ok h16 q h2 (Nat.le_refl _)]
      dsimp only
      by_cases h3 : by2 (half ws t) = r.take ((p + 1) / 2)
      · rw [if_pos h3, if_pos ⟨h2, h3⟩]
      · rw [if_neg h3, if_neg fun k => h3 k.2]
    · rw [if_neg fun k => h2 k.1]
      cases q2 : rdP ws 202 (nib r) "" 0 with
      | none => rfl
      | some y =>
        obtain ⟨t2, p2⟩ := y
        obtain ⟨k1, k2, k3⟩ := rdP_ok hw.ok h16 (fun c hc => by cases hc) q2
        dsimp only at k1 k2 k3 ⊢
        refine if_neg fun k => ?_
        have e1 : nib r = half ws t2 ++ ((pad2 (half ws t2)).drop (half ws t2).length ++ nib (r.drop ((p2 + 1) / 2))) := by
          rw [← List.append_assoc]
          conv => lhs; rw [← List.take_append_drop ((p2 + 1) / 2) r, nib_app, ← k, nib_by2 (half_16 hw k2)]
          congr 1
          unfold pad2
          split
          · rw [List.drop_left]
          · rw [List.drop_length, List.append_nil]
        have l1 : (half ws t2).length ≤ (nib r).length := by
          rw [e1, List.length_append]
          omega
        have e2 := read_half (ws := ws) k2 ((pad2 (half ws t2)).drop (half ws t2).length ++ nib (r.drop ((p2 + 1) / 2))) (nib r).length l1
        rw [← e1, q] at e2
        cases e2
        exact h2 k1
  | none =>
    dsimp only
    cases q2 : rdP ws 202 (nib r) "" 0 with
    | none => rfl
    | some y =>
      obtain ⟨t2, p2⟩ := y
      obtain ⟨k1, k2, k3⟩ := rdP_ok hw.ok h16 (fun c hc => by cases hc) q2
      dsimp only at k1 k2 k3 ⊢
      refine if_neg fun k => ?_
      have e1 : nib r = half ws t2 ++ ((pad2 (half ws t2)).drop (half ws t2).length ++ nib (r.drop ((p2 + 1) / 2))) := by
        rw [← List.append_assoc]
        conv => lhs; rw [← List.take_append_drop ((p2 + 1) / 2) r, nib_app, ← k, nib_by2 (half_16 hw k2)]
        congr 1
        unfold pad2
        split
        · rw [List.drop_left]
        · rw [List.drop_length, List.append_nil]
      have l1 : (half ws t2).length ≤ (nib r).length := by
        rw [e1, List.length_append]
        omega
      have e2 := read_half (ws := ws) k2 ((pad2 (half ws t2)).drop (half ws t2).length ++ nib (r.drop ((p2 + 1) / 2))) (nib r).length l1
      rw [← e1, q] at e2
      cases e2
def optI : Option Int → V
  | none => .non
  | some i => .int i
def optS : Option Str → V
  | none => .non
  | some i => .str i
def nxV : Option (Str × Nat) → List V
  | none => [.non, .int 0]
  | some (z, n) => [.str z, .int (n : Nat)]
def ByOk (l : List Int) : Prop := ∀ x ∈ l, 0 ≤ x ∧ x < 256
def NbOk (l : List Int) : Prop := ∀ x ∈ l, 0 ≤ x ∧ x < 16
def spHalfAt : Sp := fun vs H Q _ => ∃ (p : Addr) (l : List Int) (st pl : Nat), vs = [.ref p, .int st, .int pl] ∧ Sq H p (mi l) ∧ ByOk l ∧ l.length ≤ 5000 ∧ Q (optI ((nib (l.drop st))[pl]?)) H
def spSignOf : Sp := fun vs H Q _ => ∃ n : Int, vs = [.int n] ∧ 0 ≤ n ∧ n < 256 ∧ Q (optS (fP n)) H
def spIsText : Sp := fun vs H Q _ => ∃ z : Str, vs = [.str z] ∧ z.length ≤ 200 ∧ (∀ c ∈ z.cps.toList, c ∈ signs1.cps.toList) ∧ ∀ H', Same H H' → Q (.bl true) H'
def spReadOn (K : PySem.W.Frag) : Sp := fun vs H Q _ => ∃ (x p : Addr) (ws : List Str) (l : List Int) (st : Nat), vs = [.ref x, .ref p, .int st] ∧ Lot K H x ws ∧ Sq H p (mi l) ∧ ByOk l ∧ l.length ≤ 5000 ∧ ∀ q H', Same H H' → H q = none → H' q = some (.tup (nxV (rdP ws 202 (nib (l.drop st)) "" 0))) → Q (.ref q) H'
def spBack (K : PySem.W.Frag) : Sp := fun vs H Q E => ∃ (x p : Addr) (ws : List Str) (l : List Int) (st : Nat), vs = [.ref x, .ref p, .int st] ∧ Lot K H x ws ∧ Sq H p (mi l) ∧ ByOk l ∧ l.length ≤ 5000 ∧
  (∀ t b, rdR ws l st = some (t, b) → ∀ q H', Same H H' → H q = none → H' q = some (.tup [.str t, .int (b : Nat)]) → Q (.ref q) H') ∧
  (rdR ws l st = none → ∀ d H', Same H H' → H d = none → H' d = some (.xd [("place", .int st)]) → E (.ref (He.ga K "BadText")) (some d) H')
def spNextL : Sp := fun vs H Q _ => ∃ (pw ph : Addr) (ws : List Str) (hs : List Int) (pl : Nat), vs = [.ref pw, .ref ph, .int pl] ∧ H pw = some (.lst (ms ws)) ∧ H ph = some (.lst (mi hs)) ∧ NbOk hs ∧ hs.length ≤ 10000 ∧ ws.length ≤ 100 ∧ ∀ q H', Same H H' → H q = none → H' q = some (.tup (nxV (nx fL ws (hs.drop pl)))) → Q (.ref q) H'
def optR (H : Hp) (v : V) : Option (Str × Nat) → Prop
  | none => v = .non
  | some (t, b) => ∃ q, v = .ref q ∧ H q = some (.tup [.str t, .int (b : Nat)])
def spReadL : Sp := fun vs H Q _ => ∃ (pw pr : Addr) (ws : List Str) (l : List Int) (at_ : Nat), vs = [.ref pw, .ref pr, .int at_] ∧ H pw = some (.lst (ms ws)) ∧ H pr = some (.lst (mi l)) ∧ LotOk ws ∧ ByOk l ∧ l.length ≤ 5000 ∧ ∀ v H', Same H H' → optR H' v (rdR ws l at_) → Q v H'
def spLotWords : Sp := fun vs H Q _ => ∃ b : Addr, vs = [.ref b] ∧ Bag H b ∧ ∀ q ws H', Kp b H H' → H q = none → H' q = some (.lst (ms ws)) → LotOk ws → Q (.ref q) H'
def spItem : Sp := fun vs H Q _ => ∃ (b pw : Addr) (ws : List Str) (c : Bool), vs = [.ref b, .ref pw, .bl c] ∧ Bag H b ∧ H pw = some (.lst (ms ws)) ∧ LotOk ws ∧ ∀ q l H', Kp b H H' → H q = none → H' q = some (.lst (mi l)) → NbOk l → l.length ≤ 100 → Q (.ref q) H'
def spRowB : Sp := fun vs H Q _ => ∃ (b pw : Addr) (ws : List Str), vs = [.ref b, .ref pw] ∧ Bag H b ∧ H pw = some (.lst (ms ws)) ∧ LotOk ws ∧ ∀ q l H', Kp b H H' → H q = none → H' q = some (.lst (mi l)) → ByOk l → l.length ≤ 2000 → Q (.ref q) H'
def spSpoiltB : Sp := fun vs H Q _ => ∃ (b p : Addr) (l : List Int), vs = [.ref b, .ref p] ∧ Bag H b ∧ H p = some (.lst (mi l)) ∧ ByOk l ∧ l.length ≤ 2000 ∧ ∀ q l' H', Kp b H H' → H' q = some (.lst (mi l')) → ByOk l' → l'.length ≤ 2010 → Q (.ref q) H'
def spAskBack (K : PySem.W.Frag) : Sp := fun vs H Q E => ∃ (x p : Addr) (ws : List Str) (l : List Int) (st : Nat) (c : Bool), vs = [.ref x, .ref p, .int st, .bl c] ∧ (c = true → st = 0) ∧ Lot K H x ws ∧ Sq H p (mi l) ∧ ByOk l ∧ l.length ≤ 5000 ∧
  (∀ t b, rdR ws l st = some (t, b) → ∀ q H', Same H H' → H q = none → H' q = some (.tup [.str t, .int (b : Nat)]) → Q (.ref q) H') ∧
  (rdR ws l st = none → ∀ d H', Same H H' → H d = none → H' d = some (.xd [("place", .int st)]) → E (.ref (He.ga K "BadText")) (some d) H')
def spLBack (K : PySem.W.Frag) : Sp := fun vs H Q _ => ∃ (x p : Addr) (ws : List Str) (l : List Int) (st : Nat) (c : Bool), vs = [.ref x, .ref p, .int st, .bl c] ∧ (c = true → st = 0) ∧ Lot K H x ws ∧ Sq H p (mi l) ∧ ByOk l ∧ l.length ≤ 5000 ∧
  (∀ t b, rdR ws l st = some (t, b) → ∀ r q H', Same H H' → H r = none → H' r = some (.lst [.str "told", .ref q]) → H' q = some (.tup [.str t, .int (b : Nat)]) → Q (.ref r) H') ∧
  (rdR ws l st = none → ∀ r H', Same H H' → H r = none → H' r = some (.lst [.str "refused", .int st]) → Q (.ref r) H')
def spAgrees (K : PySem.W.Frag) : Sp := fun vs H Q _ => ∃ (x pw p : Addr) (ws : List Str) (l : List Int) (st : Nat) (c : Bool), vs = [.ref x, .ref pw, .ref p, .int st, .bl c] ∧ (c = true → st = 0) ∧ Lot K H x ws ∧ H pw = some (.lst (ms ws)) ∧ H p = some (.lst (mi l)) ∧ ByOk l ∧ l.length ≤ 5000 ∧ ∀ H', Same H H' → Q (.bl true) H'
def sgT (m : Nat) : Bool := if m = 10 then decide (m ∈ signs1.cps.toList) else if 32 ≤ m ∧ m ≤ 126 ∧ m ≠ 37 then decide (m ∈ signs1.cps.toList) && (signs1.cps.toList.getD (m - 32) 0 == m || false) else !decide (m ∈ signs1.cps.toList)
theorem sgT_ok : (List.range 256).all sgT = true := by decide +kernel
theorem sgTab (m : Nat) (hm : m < 256) : (m = 10 → fP (m : Int) = some (S1 10)) ∧ (32 ≤ m → m ≤ 126 → m ≠ 37 → fP (m : Int) = some (S1 (signs1.cps.toList.getD (m - 32) 0))) ∧ (m ≠ 10 → ¬ (32 ≤ m ∧ m ≤ 126 ∧ m ≠ 37) → fP (m : Int) = none) := by
  have h := List.all_eq_true.mp sgT_ok m (List.mem_range.mpr hm)
  unfold sgT at h
  unfold fP
  rw [Int.toNat_natCast]
  refine ⟨fun e => ?_, fun a b c => ?_, fun a b => ?_⟩
  · rw [if_pos e] at h
    rw [if_pos (of_decide_eq_true h), e]
  · rw [if_neg (by omega), if_pos ⟨a, b, c⟩, Bool.and_eq_true] at h
    have h2 := h.2
    simp only [Bool.or_false, beq_iff_eq] at h2
    rw [if_pos (of_decide_eq_true h.1), h2]
  · rw [if_neg a, if_neg b] at h
    rw [if_neg (by simpa using h)]
theorem filt1 {n : Int} (h0 : 0 ≤ n) : ∀ l : List Nat, l.Nodup → l.filter (fun (c : Nat) => decide ((c : Int) = n)) = if n.toNat ∈ l then [n.toNat] else []
  | [], _ => rfl
  | c :: l, h => by
    obtain ⟨h1, h2⟩ := List.nodup_cons.mp h
    have ih := filt1 h0 l h2
    by_cases e : (c : Int) = n
    · have e2 : n.toNat = c := by omega
      rw [List.filter_cons_of_pos (by simpa using e), ih, e2, if_neg h1, if_pos List.mem_cons_self]
    · have e2 : n.toNat ≠ c := by omega
      rw [List.filter_cons_of_neg (by simpa using e), ih]
      by_cases k : n.toNat ∈ l
      · rw [if_pos k, if_pos (List.mem_cons_of_mem _ k)]
      · rw [if_neg k, if_neg (fun q => (List.mem_cons.mp q).elim e2 k)]
theorem others_nd : othersS.cps.toList.Nodup := by decide +kernel
theorem rowAt (r : Str) {k : Int} (h0 : 0 ≤ k) (h1 : k < r.cps.toList.length) : atI r.cps.toList k = some (r.cps.toList.getD k.toNat 0) := by
  obtain ⟨m, rfl⟩ : ∃ m : Nat, k = (m : Int) := ⟨k.toNat, by omega⟩
  have hl : m < r.cps.toList.length := by omega
  rw [Int.toNat_natCast, List.getD_eq_getElem?_getD, List.getElem?_eq_getElem hl]
  exact atI_get (List.getElem?_eq_getElem hl)
def strF (t : Str) : Bool := PyData.strOk t
theorem strF_of {t : Str} (h : ∀ c ∈ t.cps.toList, c ∈ signs1.cps.toList) : strF t = true := by
  unfold strF PyData.strOk
  rw [← Array.all_toList, List.all_eq_true]
  have lt : ∀ c ∈ signs1.cps.toList, c < 200 := by decide +kernel
  intro x hx
  exact decide_eq_true (Nat.lt_trans (lt x (h x hx)) (by decide))
theorem rdR_F {ws : List Str} (ok : LotOk ws) {l : List Int} (hb : ByOk l) {st : Nat} {t : Str} {b : Nat} (e : rdR ws l st = some (t, b)) : strF t = true := by
  rw [← rdB_eq ok hb] at e
  unfold rdB at e
  split at e
  · cases e
  · rename_i t2 p2 q2
    split at e
    · cases e
      exact strF_of (rdP_ok ok.ok (nib_16 fun y hy => hb y (List.mem_of_mem_drop hy)) (fun c hc => by cases hc) q2).2.1
    · cases e
theorem rdR_200 {ws : List Str} (ok : LotOk ws) {l : List Int} (hb : ByOk l) {st : Nat} {t : Str} {b : Nat} (e : rdR ws l st = some (t, b)) : t.length ≤ 200 := by
  rw [← rdB_eq ok hb] at e
  unfold rdB at e
  split at e
  · cases e
  · rename_i t2 p2 q2
    split at e
    · cases e
      exact (rdP_ok ok.ok (nib_16 fun y hy => hb y (List.mem_of_mem_drop hy)) (fun c hc => by cases hc) q2).1
    · cases e
theorem lA : rowA.cps.toList.length = 12 := by decide +kernel
theorem lB : rowB.cps.toList.length = 16 := by decide +kernel
theorem lC : rowC.cps.toList.length = 16 := by decide +kernel
def spLaw (K : PySem.W.Frag) : Sp := fun vs H Q _ => ∃ (a : Addr) (ns : List Int), vs = [.ref a] ∧ SqL K H a (ns.map V.int) ∧ ns.length ≤ 1000 ∧ ∀ H', Q (.bl true) H'
theorem by2_ok {l : List Int} (h : NbOk l) : ByOk (by2 l) := fun x hx => by
  unfold by2 at hx
  obtain ⟨k, hk, rfl⟩ := List.mem_map.mp hx
  have p := pad2_16 h
  have g : ∀ i, 0 ≤ (pad2 l).getD i 0 ∧ (pad2 l).getD i 0 < 16 := fun i => by
    rw [List.getD_eq_getElem?_getD]
    cases e : (pad2 l)[i]? with
    | none => decide
    | some y => exact p y (List.mem_of_getElem? e)
  have := g (2 * k)
  have := g (2 * k + 1)
  omega
theorem NbOk.app {a b : List Int} (ha : NbOk a) (hb : NbOk b) : NbOk (a ++ b) := fun x hx => (List.mem_append.mp hx).elim (ha x) (hb x)
theorem ByOk.app {a b : List Int} (ha : ByOk a) (hb : ByOk b) : ByOk (a ++ b) := fun x hx => (List.mem_append.mp hx).elim (ha x) (hb x)
theorem ap3 (l : List Int) : mi l ++ [V.int 15, V.int 0, V.int 0] = mi (l ++ [15, 0, 0]) := by
  rw [mi_app]
  rfl
theorem NbOk.tail : NbOk [15, 0, 0] := fun x hx => by
  simp only [List.mem_cons, List.not_mem_nil, or_false] at hx
  rcases hx with rfl | rfl | rfl <;> decide
theorem dist_self {ws ys : List Str} (ok : LotOk ws) (d : DistOf ws ys) : ys = ws :=
  pw_uniq (sorted_pw d.1) (sorted_pw ok.so) ((List.perm_ext_iff_of_nodup d.2.1 ok.nd).mpr d.2.2)
local macro_rules | `(tactic| walk_at "rd") => `(tactic| try simp only [cx_K, tMethK, tLstRg, tRg1, tRg2, L2.start, List.map_cons, List.map_nil, List.length_cons, List.length_nil, List.cons_append, List.nil_append, List.append_nil, Nat.reduceAdd, Nat.reduceSub, List.replicate, tSeq, tIfS, tTest, tB, tOp, tVar, tC, tAsg, gName, tRet, tRetN, tDrop, tCB, tCons, tNil, rI0, rI, tNext, tNot, tAnd, tOr, tIf, tAndV, tOrV, tNotV, tUn, rU, tDGet, sDPut, tCall, tCallS, tTup, tLst, tSl, tPart, tNoPart, rSlS, tM0, tM1, rIxLt, rIxTt, rIxSt, rLenL, rLenT, rLenS, rIntI, rOrd, rSlLt, tBM, tBM0, rAppend, rExtend, rRep, rCat, rIxQ, rLenQ, rTupQ, rTupL, rMin2, rAnd255, rNonIs, rNonNot, rNeL, rNeT, rEqT, rIns, rPopAt, rSetL, gSub, rExtQ, rSlQ, iList, iTup, iRng1, iRng2, iStr, tFld, sFld, gFld, gTup, tMethT, tMakeT, tCallE, rIntB, rOwnEq, rRepr, rIsI, rLenO, rInO, rNotInO, rBinO, rNeO, rIxO, rListO, rIterT, rSortS, Fx.rInS, rIdxT, rIdxL, rListD, tRevL, tDGet2, rLstQ, Fx.rCntS, rIterTN, iOwn, tDead, rIxF, rLenF, rInF, rIdxF, tBMF, rEqF, rTupF, tMake, tMeth, tChain, tDep, tCallO, tBinT, rSortZ, ipZ, cx_w, rLj, rJn, rIsBl, rNoBl, tRaiseFx, tMkFx, tAug, ipI, tCont, tBreak, gCons, gNil, rLstL, rLstT, rAllL, rAnyL, rMulS, Fx.rIsB, tYes, wipe, rEqL, rEq, rNe, scal, tyv_non, tyv_bl, tyv_int, tyv_str, kb_int_int, kb_int_bool, kb_bool_int, kb_bool_bool, kb_str_str, kb_int_str, kb_bool_str, kb_none_str, kb_list_str, kb_tuple_str, kb_dict_str, kb_tuple_tuple, kb_list_list, List.getElem?_cons_zero, List.getElem?_cons_succ, List.set_cons_zero, List.set_cons_succ, Option.some.injEq, V.int.injEq, V.str.injEq, V.bl.injEq, V.ref.injEq, V.ty.injEq, HO.lst.injEq, HO.tup.injEq, List.cons.injEq, reduceCtorEq, false_and, and_false, or_false, false_or, exists_false, and_true, true_and, exists_and_left, exists_eq_left, exists_eq_left', exists_eq, exists_eq', and_assoc, ite_dec, ite_ndec, upd_same, if_true, Bool.false_eq_true, if_false, Bool.not_true, Bool.not_false])
section
variable {P : Program} {w : World} {K : PySem.W.Frag} {mg : Str → Option Value} {base : Heap}
theorem ok_is_short_word (S : Src K mg "is_short_word" s_is_short_word) (T : Tx P K mg)   : Cal P w K mg base CX0 1 "is_short_word" ["thing"] spShort := by
  refine S.cal sc_is_short_word bn_is_short_word (fun vs H Q E h => ?_) (fun f cdv A outer s H vs Q E hr h => ?_)
  · first | (obtain ⟨rfl, _⟩ := h; rfl) | (obtain ⟨_, rfl, _⟩ := h; rfl) | (obtain ⟨_, _, rfl, _⟩ := h; rfl) | (obtain ⟨_, _, _, rfl, _⟩ := h; rfl) | (obtain ⟨_, _, _, _, rfl, _⟩ := h; rfl) | (obtain ⟨_, _, _, _, _, rfl, _⟩ := h; rfl) | (obtain ⟨_, _, _, _, _, _, rfl, _⟩ := h; rfl) | (obtain ⟨_, _, _, _, _, _, _, rfl, _⟩ := h; rfl) | (obtain ⟨_, _, _, _, _, _, _, _, rfl, _⟩ := h; rfl) | (obtain ⟨_, _, _, _, _, _, _, _, _, rfl, _⟩ := h; rfl)
  · skip
    refine ⟨_, (pss_cons (ps_if (PW.pt (pw_or (pt_not (pt_val (Fx.pe_cB Fx.is_B T.b_isinstance (by decide +kernel) (Fx.pa_c (pv 0) (Fx.pa_c (pe_bltn (v := .ty "str") (by rfl) T.b_str (by decide +kernel) rfl) pa_nil))))) (pw_or1 (pt_not (pt_chain op_le op_le pe_int (Fx.pe_cB Fx.len_S T.b_len (by decide +kernel) (Fx.pa_c (pv 0) pa_nil)) pe_int))))) (pss_one (ps_ret pe_bl)) pss_nil)
        (pss_one (ps_ret (Fx.pe_cB (Fx.all_L rfl) T.b_all (by decide +kernel) (Fx.pa_c (pe_lc (own := [("sign", 1)]) rfl sc_is_short_word.nd (pi_str (pv 0)) (blkOk_by (N := N_is_short_word) (sc := defScope s_is_short_word) (by decide +kernel)) (fun _ _ _ _ _ => (pg_name (i := 1) sc_is_short_word.nd rfl (Or.inl rfl))) (fun _ _ _ _ _ => pts_nil) (fun _ _ _ _ _ => (pe_cmpR op_in_sign (pv 1) (Fx.pe_cst T.c_LETTERS) rfl))) pa_nil))))), ?_⟩
    obtain ⟨v, rfl, h⟩ := h
    refine seqI fun K1 k1 => ?_
    walk_at "rd"
    rcases h with ⟨z, rfl, hz, q⟩ | ⟨t, ht, hk, q⟩
    · refine ⟨_, tyv_str, _, kb_str_str, ?_⟩
      rw [if_neg (by decide)]
      have lz : z.cps.toList.length = z.length := Array.length_toList
      refine ⟨z, rfl, sz (by omega), ite_i (fun h1 => ite_i (fun h2 => ?_) (fun h2 => ?_)) (fun h1 => ?_)⟩
      · refine k1 _ _ ?_
        clear k1
        walk_at "rd"
        refine ⟨.str z, rfl, z, rfl, fun D nD => ?_⟩
        refine lc_S (z := z) (fun i H2 => H2 = upd H D (.lst (((z.cps.toList.take i).map isL).map V.bl))) rfl ?_ ?_
        · rintro i c H2 hc rfl
          refine ⟨rfl, ?_⟩
          walk_at "rd"
          refine ⟨c, rfl, ?_, ?_⟩
          · rw [List.length_map, List.length_map, List.length_take]
            exact Nat.lt_of_lt_of_le (by omega : _ < 2000) (by decide)
          · rw [upd_upd, List.take_add_one, hc]
            simp [isL, letS]
        · rintro H2 rfl
          refine ⟨D, rfl, _, upd_same, ?_⟩
          rw [List.take_length]
          have e1 : ((z.cps.toList.map isL).all id) = isSW z := by
            unfold isSW
            rw [decide_eq_true (by omega : 3 ≤ z.length), decide_eq_true (by omega : z.length ≤ 20), List.all_map]
            rfl
          rw [e1]
          exact q _ (same_new nD)
      · have e : isSW z = false := by
          unfold isSW
          rw [decide_eq_false (by omega : ¬ z.length ≤ 20), Bool.and_false, Bool.false_and]
        rw [e] at q
        exact q H (Same.refl H)
      · have e : isSW z = false := by
          unfold isSW
          rw [decide_eq_false (by omega : ¬ 3 ≤ z.length), Bool.false_and, Bool.false_and]
        rw [e] at q
        exact q H (Same.refl H)
    · refine ⟨t, ht, _, hk, ?_⟩
      rw [if_pos (by decide)]
      exact q
end
section
variable {P : Program} {w : World} {K : PySem.W.Frag} {mg : Str → Option Value} {base : Heap}
theorem ok_Lot_MU_initU {f0 : Addr} {fd : FuncData} (F : FunD K "__init__" "Lot.__init__" (defArgs s_Lot_MU_initU) (defBody s_Lot_MU_initU) (defScope s_Lot_MU_initU) [(.ref (He.dflAt ("Lot", some "__init__") 0 K))] [] f0 fd) (M : Mk K (He.ga K "Lot") f0) (T : Tx P K mg) (C_is_short_word : Cal P w K mg base CX0 1 "is_short_word" ["thing"] spShort)  : CalID P w K mg base (L2.CX P w) 3 (He.ga K "Lot") ["self", "words"] (.ref (He.dflAt ("Lot", some "__init__") 0 K)) (spLot K) := by
  refine calID_of F M 1 rfl bf_Lot_MU_initU bd_Lot_MU_initU (okXD F sc_Lot_MU_initU (fun vs H Q E h => ?_) (fun f cdv A outer s H vs Q E hr h => ?_))
  · first | (obtain ⟨rfl, _⟩ := h; rfl) | (obtain ⟨_, rfl, _⟩ := h; rfl) | (obtain ⟨_, _, rfl, _⟩ := h; rfl) | (obtain ⟨_, _, _, rfl, _⟩ := h; rfl) | (obtain ⟨_, _, _, _, rfl, _⟩ := h; rfl) | (obtain ⟨_, _, _, _, _, rfl, _⟩ := h; rfl) | (obtain ⟨_, _, _, _, _, _, rfl, _⟩ := h; rfl) | (obtain ⟨_, _, _, _, _, _, _, rfl, _⟩ := h; rfl) | (obtain ⟨_, _, _, _, _, _, _, _, rfl, _⟩ := h; rfl) | (obtain ⟨_, _, _, _, _, _, _, _, _, rfl, _⟩ := h; rfl)
  · skip
    refine ⟨_, (pss_cons (ps_for (passes_of rfl) rfl (Fx.pi_Q (pv 1)) (pg_name (i := 2) sc_Lot_MU_initU.nd rfl (Or.inl rfl)) (pss_one (ps_if (pt_not (pt_val (Fx.pe_cal C_is_short_word (hr.mono (by decide)) pass0 (Fx.pa_c (pv 2) pa_nil)))) (pss_one (Fx.ps_raiseFx rfl T.x_BadLot T.g_BadLot T.b_super hr (takes_of rfl rfl rfl rfl) (Fx.pa_c (pv 2) pa_nil))) pss_nil)))
        (pss_cons (ps_fld (pv 0) (Fx.pe_cTy Fx.tup_F T.b_tuple (by decide +kernel) (Fx.pa_c (Fx.pe_cB (Fx.sort_Z rfl) T.b_sorted (by decide +kernel) (Fx.pa_c (Fx.pe_scS (own := [("word", 2)]) rfl sc_Lot_MU_initU.nd (Fx.pi_Q (pv 1)) (blkOk_by (N := N_Lot_MU_initU) (sc := defScope s_Lot_MU_initU) (by decide +kernel)) (fun _ _ _ _ _ => (pg_name (i := 2) sc_Lot_MU_initU.nd rfl (Or.inl rfl))) (fun _ _ _ _ _ => pts_nil) (fun _ _ _ _ _ => (pv 2))) pa_nil)) pa_nil)) rfl)
        (pss_one (ps_if (pt_cmpR op_gt (Fx.pe_cB Fx.len_F T.b_len (by decide +kernel) (Fx.pa_c (Fx.pe_fldK (K := K) rfl (pv 0) rfl) pa_nil)) pe_int (nomark _)) (pss_one (Fx.ps_raiseFx rfl T.x_TooMany T.g_TooMany T.b_super hr (takes_of rfl rfl rfl rfl) (Fx.pa_c pe_str pa_nil))) pss_nil)))), ?_⟩
    obtain ⟨x, dx, pw, l, rfl, hx, hS, hl, h⟩ := h
    refine seqI fun K1 k1 => ?_
    refine forA (x := x) (Hb := H) (a := pw) (xs := l) hx rfl hS (fun i σ H' => ∃ (v2 : Option V) (zs : List Str), σ = [some (.ref x), some (.ref pw), v2] ∧ l.take i = ms zs ∧ (∀ z ∈ zs, isSW z = true) ∧ Same H H') ⟨none, [], rfl, rfl, fun z h => (by cases h), Same.refl _⟩ (fun i σ H' ⟨_, _, _, _, _, s⟩ => .of s) ?_ ?_
    · rintro i y σ H1 hy ⟨v2, zs, rfl, hz, hw, s1⟩
      clear k1
      walk_at "rd"
      refine ⟨y, rfl, ?_⟩
      have good : ∀ z, y = .str z → isSW z = true → ∀ H', Same H1 H' → ∃ x : List Str, List.take (i + 1) l = ms x ∧ (∀ (z : Str), z ∈ x → isSW z = true) ∧ Same H H' := by
        rintro z rfl gz H' s'
        refine ⟨zs ++ [z], ?_, ?_, s1.trans s'⟩
        · rw [List.take_add_one, hy, hz]
          simp [ms]
        · intro a ha
          rcases List.mem_append.mp ha with ha | ha
          · exact hw a ha
          · rw [List.mem_singleton.mp ha]
            exact gz
      rcases h with ⟨w, fb, q⟩ | ⟨zs0, rfl, hw0, q⟩
      · rcases fb.at hz hw hy with ⟨z, rfl, gz⟩ | ⟨rfl, bz⟩
        · have := isSW_len gz
          refine .inl ⟨z, rfl, by omega, fun H' s' => ⟨_, rfl, ?_⟩⟩
          rw [gz, if_neg (by decide)]
          exact good z rfl gz H' s'
        · rcases bz.same s1 with ⟨z, rfl, lz, bz⟩ | ⟨t, ht, hk⟩
          · refine .inl ⟨z, rfl, lz, fun H' s' => ⟨_, rfl, ?_⟩⟩
            rw [bz, if_pos (by decide)]
            exact fun d nd => q d _ (.of ((s1.trans s').trans (same_new nd))) ((s1.trans s').free nd) upd_same
          · refine .inr ⟨t, ht, hk, _, rfl, ?_⟩
            rw [if_pos (by decide)]
            exact fun d nd => q d _ (.of (s1.trans (same_new nd))) (s1.free nd) upd_same
      · obtain ⟨z, hz0, rfl⟩ := List.mem_map.mp (List.mem_of_getElem? hy)
        have gz := hw0 z hz0
        have := isSW_len gz
        refine .inl ⟨z, rfl, by omega, fun H' s' => ⟨_, rfl, ?_⟩⟩
        rw [gz, if_neg (by decide)]
        exact good z rfl gz H' s'
    rintro σ H1 ⟨v2, zs, rfl, hz, hw, s1⟩
    refine k1 _ _ ?_
    clear k1
    rw [List.take_length] at hz
    rcases h with ⟨w, fb, q⟩ | ⟨zs0, el, hw0, q⟩
    · exact (fb.no hz hw).elim
    have ez : zs0 = zs := ms_inj.mp (el.symm.trans hz)
    subst ez
    clear hz hw0
    subst el
    refine seqI fun K1 k1 => ?_
    walk_at "rd"
    have lz : zs0.length ≤ 500 := by
      rw [List.length_map] at hl
      exact hl
    refine sc_Q (a := pw) (xs := ms zs0) rfl (hS.same s1) (fun i D H' => ∃ L, H' D = some (SetSO w D L) ∧ L.length ≤ i ∧ L.Nodup ∧ (∀ f, f ∈ L ↔ f ∈ zs0.take i) ∧ Same H1 H' ∧ H1 D = none) ?_ ?_ ?_ ?_
    · rintro i D H' ⟨L, _, _, _, _, s, _⟩
      refine ⟨fun h => s.seq h, fun h => ?_⟩
      rcases h with (h | ⟨o, h⟩) | h
      · exact .inl (.inl (s _ _ h))
      · exact .inl (.inr ⟨o, s _ _ h⟩)
      · exact .inr h
    · intro D nD
      exact ⟨[], upd_same, Nat.le_refl _, .nil, fun f => by simp, same_new nD, nD⟩
    · rintro i D y H' hy ⟨L, hD, lL, nd, hm, s2, nD⟩
      have hi := (List.getElem?_eq_some_iff.mp hy).1
      rw [List.length_map] at hi
      rw [List.getElem?_map, List.getElem?_eq_getElem hi] at hy
      have ey : y = .str zs0[i] := (Option.some.inj hy).symm
      subst ey
      refine ⟨rfl, ?_⟩
      walk_at "rd"
      have lp := len_plus L zs0[i]
      refine ⟨L, hD, Nat.lt_of_lt_of_le (by omega : _ < 1000) (by decide), _, rfl, by omega, nodup_plus nd, fun f => ?_, Same.put s2 nD, nD⟩
      rw [mem_plus, hm f, List.take_add_one, List.getElem?_eq_getElem hi, List.mem_append]
      simp
    rintro D H2 ⟨L, hD, lL, nd, hm, s2, _⟩
    rw [List.length_map, List.take_of_length_le (Nat.le_refl _)] at hm
    refine ⟨D, rfl, L, hD, fun ys p perm _ so np l1 H3 nl1 s3 f3 => ?_⟩
    have sA : Same H H3 := ((s1.trans s2).trans (same_new np)).trans s3
    have dws : DistOf zs0 ys := ⟨so, perm.nodup_iff.mpr nd, fun f => by rw [perm.mem_iff, hm f]⟩
    obtain ⟨q1, q2⟩ := q ys dws
    refine ⟨_, _, _, sA _ _ hx, T.cl_Lot, T.n_Lot_words, (show 0 < 1000 by decide), k1 _ _ ?_⟩
    clear k1
    have hx4 : (upd H3 x (.ins (He.ga K "Lot") dx (putF "words" (.ref l1) []))) x = some (.ins (He.ga K "Lot") dx [("words", .ref l1)]) := upd_same
    have f4 : FT (upd H3 x (.ins (He.ga K "Lot") dx (putF "words" (.ref l1) []))) l1 (ms ys) := by
      obtain ⟨ob, h1, h2⟩ := f3
      exact ⟨ob, by rw [upd_ne (ne_of h1 (sA _ _ hx) (by intro z; cases z))]; exact h1, h2⟩
    have k4 : Kx x H (upd H3 x (.ins (He.ga K "Lot") dx (putF "words" (.ref l1) []))) := fun a o na e => by
      rw [upd_ne na]
      exact sA _ _ e
    generalize upd H3 x (.ins (He.ga K "Lot") dx (putF "words" (.ref l1) [])) = H4 at hx4 f4 k4
    walk_at "rd"
    refine ⟨_, _, _, hx4, T.cl_Lot, T.n_Lot_words, _, rfl, l1, rfl, _, f4, ite_i (fun hg => ?_) (fun hg => ?_)⟩
    · rw [List.length_map] at hg
      exact fun d nd => q2 (by omega) d _ (k4.trans (.of (same_new nd))) (k4.free hx4 nd) upd_same
    · rw [List.length_map] at hg
      have l16 : ys.length ≤ 16 := by omega
      exact q1 l16 H4 k4 ⟨⟨so, dws.2.1, fun z hz => hw z ((dws.2.2 z).mp hz), l16⟩, dx, l1, hx4, f4⟩
end
section
variable {P : Program} {w : World} {K : PySem.W.Frag} {mg : Str → Option Value} {base : Heap}
theorem ok_pieces (S : Src K mg "pieces" s_pieces) (T : Tx P K mg)   : Cal P w K mg base CX0 1 "pieces" ["text"] spPieces := by
  refine S.cal sc_pieces bn_pieces (fun vs H Q E h => ?_) (fun f cdv A outer s H vs Q E hr h => ?_)
  · first | (obtain ⟨rfl, _⟩ := h; rfl) | (obtain ⟨_, rfl, _⟩ := h; rfl) | (obtain ⟨_, _, rfl, _⟩ := h; rfl) | (obtain ⟨_, _, _, rfl, _⟩ := h; rfl) | (obtain ⟨_, _, _, _, rfl, _⟩ := h; rfl) | (obtain ⟨_, _, _, _, _, rfl, _⟩ := h; rfl) | (obtain ⟨_, _, _, _, _, _, rfl, _⟩ := h; rfl) | (obtain ⟨_, _, _, _, _, _, _, rfl, _⟩ := h; rfl) | (obtain ⟨_, _, _, _, _, _, _, _, rfl, _⟩ := h; rfl) | (obtain ⟨_, _, _, _, _, _, _, _, _, rfl, _⟩ := h; rfl)
  · skip
    refine ⟨_, (pss_cons (ps_set (i := 1) sc_pieces.nd rfl (Or.inl rfl) (pe_lst pa_nil))
        (pss_cons (ps_set (i := 2) sc_pieces.nd rfl (Or.inl rfl) pe_str)
        (pss_cons (ps_for PassesOwn.never rfl (pi_str (pv 0)) (pg_name (i := 3) sc_pieces.nd rfl (Or.inl rfl)) (pss_cons (ps_if (pt_cmpR op_in_sign (pv 3) (Fx.pe_cst T.c_LETTERS) rfl) (pss_cons (ps_aug (i := 2) sc_pieces.nd rfl (Or.inl rfl) (pv 3) Fx.ip_addZ)
        (pss_one ps_continue)) pss_nil)
        (pss_cons (ps_if (pt_truth (pv 2) (by intro _; rfl)) (pss_cons (ps_expr (pe_bm PySem.F.plainAttrs_list PySem.F.slot_list_append PySem.F.type_list_append mt_append (pv 1) (Fx.pa_c (pv 2) pa_nil)))
        (pss_one (ps_set (i := 2) sc_pieces.nd rfl (Or.inl rfl) pe_str))) pss_nil)
        (pss_one (ps_expr (pe_bm PySem.F.plainAttrs_list PySem.F.slot_list_append PySem.F.type_list_append mt_append (pv 1) (Fx.pa_c (pv 3) pa_nil)))))))
        (pss_cons (ps_if (pt_truth (pv 2) (by intro _; rfl)) (pss_one (ps_expr (pe_bm PySem.F.plainAttrs_list PySem.F.slot_list_append PySem.F.type_list_append mt_append (pv 1) (Fx.pa_c (pv 2) pa_nil)))) pss_nil)
        (pss_one (ps_ret (pv 1))))))), ?_⟩
    obtain ⟨z, rfl, hz, q⟩ := h
    have lz : z.cps.toList.length = z.length := Array.length_toList
    refine seqI fun K1 k1 => ?_
    walk_at "rd"
    refine ⟨by decide, ?_⟩
    intro pr nr
    generalize e_pr : upd H pr _ = H1
    have s1 := new_s nr e_pr
    have hr := new_h e_pr
    clear e_pr
    refine k1 _ _ ?_
    clear k1
    refine seqI fun K1 k1 => ?_
    walk_at "rd"
    refine k1 _ _ ?_
    clear k1
    refine seqI fun K1 k1 => ?_
    refine ⟨.str z, rfl, z, rfl, for_S (z := z) (fun i σ H' => ∃ (run : List Nat) (v3 : Option V) (out : List Str), σ = [some (.str z), some (.ref pr), some (.str (mkS run)), v3] ∧ H' pr = some (.lst (ms out)) ∧ out ++ pg run (z.cps.toList.drop i) = pieces z ∧ run.length + out.length ≤ i ∧ Same H H') ⟨[], none, [], rfl, hr, rfl, Nat.le_refl _, s1⟩ ?_ ?_⟩
    · rintro i c σ H2 hc ⟨run, v3, out, rfl, hr2, ho, lr, s2⟩
      clear k1
      have hi := (List.getElem?_eq_some_iff.mp hc).1
      have ed : z.cps.toList.drop i = c :: z.cps.toList.drop (i + 1) := by
        obtain ⟨hlt, e⟩ := List.getElem?_eq_some_iff.mp hc
        rw [List.drop_eq_getElem_cons hlt, e]
      rw [ed] at ho
      walk_at "rd"
      have lm := mkS_len run
      refine ⟨c, rfl, ite_i (fun h1 => ?_) (fun h1 => ⟨_, ⟨sz (by omega), rfl⟩, ?_⟩)⟩
      · rw [pg_let (decide_eq_true h1)] at ho
        refine ⟨?_, run ++ [c], mkS_app run [c], out, hr2, ho, ?_, s2⟩
        · show (mkS run).length + 1 ≤ _
          exact sz (by omega)
        · rw [List.length_append]
          show run.length + 1 + out.length ≤ _
          omega
      · rw [pg_non (decide_eq_false h1)] at ho
        have lo1 : (ms out).length < 5000 := by rw [List.length_map]; omega
        by_cases e : run = []
        · subst e
          rw [if_neg (by decide)]
          refine ⟨tyL hr2, _, hr2, Nat.lt_of_lt_of_le lo1 (by decide), [], rfl, out ++ [S1 c], by simp [ms], ?_, ?_, Same.put s2 nr⟩
          · rw [← ho]
            simp [runS]
          · rw [List.length_append]
            show 0 + (out.length + 1) ≤ _
            omega
        · have ep : 0 < run.length := List.length_pos_iff.mpr e
          rw [if_pos (by rw [lm]; simpa using e)]
          refine ⟨tyL hr2, _, hr2, Nat.lt_of_lt_of_le lo1 (by decide), tyL upd_same, ?_, [], rfl, out ++ [mkS run, S1 c], by simp [ms], ?_, ?_, ?_⟩
          · rw [List.length_append]
            exact Nat.lt_of_lt_of_le (show (ms out).length + 1 < 6000 by omega) (by decide)
          · rw [← ho, runS, if_neg e]
            simp
          · rw [List.length_append]
            show 0 + (out.length + 2) ≤ _
            omega
          · exact Same.put (Same.put s2 nr) nr
    rintro σ H2 ⟨run, v3, out, rfl, hr2, ho, lr, s2⟩
    refine k1 _ _ ?_
    clear k1
    rw [List.drop_length] at ho
    refine seqI fun K1 k1 => ?_
    refine ifI fun A B ka kb => ?_
    walk_at "rd"
    have lm := mkS_len run
    refine ⟨_, ⟨sz (by omega), rfl⟩, ite_i (fun h1 => ka _ ?_) (fun h1 => kb _ ?_)⟩
    · walk_at "rd"
      refine ⟨tyL hr2, _, hr2, ?_, k1 _ _ ?_⟩
      · rw [List.length_map]
        exact Nat.lt_of_lt_of_le (by omega : _ < 2000) (by decide)
      walk_at "rd"
      have e : run ≠ [] := fun e => by rw [lm, e] at h1; exact absurd h1 (by decide)
      refine q _ _ (Same.put s2 nr) nr ?_
      rw [upd_same, ← ho, pg, runS, if_neg e]
      simp [ms]
    · walk_at "rd"
      refine k1 _ _ ?_
      clear k1
      walk_at "rd"
      have e : run = [] := by
        cases run with
        | nil => rfl
        | cons a b => exact absurd (by rw [lm]; simp; omega) h1
      subst e
      refine q _ _ s2 nr ?_
      rw [hr2, ← ho]
      simp [pg, runS]
end
section
variable {P : Program} {w : World} {K : PySem.W.Frag} {mg : Str → Option Value} {base : Heap}
theorem ok_codes (S : Src K mg "codes" s_codes) (T : Tx P K mg)   : Cal P w K mg base CX0 1 "codes" ["sign"] spCodes := by
  refine S.cal sc_codes bn_codes (fun vs H Q E h => ?_) (fun f cdv A outer s H vs Q E hr h => ?_)
  · first | (obtain ⟨rfl, _⟩ := h; rfl) | (obtain ⟨_, rfl, _⟩ := h; rfl) | (obtain ⟨_, _, rfl, _⟩ := h; rfl) | (obtain ⟨_, _, _, rfl, _⟩ := h; rfl) | (obtain ⟨_, _, _, _, rfl, _⟩ := h; rfl) | (obtain ⟨_, _, _, _, _, rfl, _⟩ := h; rfl) | (obtain ⟨_, _, _, _, _, _, rfl, _⟩ := h; rfl) | (obtain ⟨_, _, _, _, _, _, _, rfl, _⟩ := h; rfl) | (obtain ⟨_, _, _, _, _, _, _, _, rfl, _⟩ := h; rfl) | (obtain ⟨_, _, _, _, _, _, _, _, _, rfl, _⟩ := h; rfl)
  · skip
    refine ⟨_, (pss_cons (ps_set (i := 1) sc_codes.nd rfl (Or.inl rfl) (pe_m1 PySem.F.slot_str_find PySem.F.type_str_find mt_find (Fx.pe_cst T.c_ROW1) (pv 0)))
        (pss_cons (ps_if (pt_cmpR op_ge (pv 1) pe_int (nomark _)) (pss_one (ps_ret (pe_tup (Fx.pa_c (pv 1) pa_nil)))) pss_nil)
        (pss_cons (ps_set (i := 1) sc_codes.nd rfl (Or.inl rfl) (pe_m1 PySem.F.slot_str_find PySem.F.type_str_find mt_find (Fx.pe_cst T.c_ROW2) (pv 0)))
        (pss_cons (ps_if (pt_cmpR op_ge (pv 1) pe_int (nomark _)) (pss_one (ps_ret (pe_tup (Fx.pa_c pe_int (Fx.pa_c (pv 1) pa_nil))))) pss_nil)
        (pss_cons (ps_set (i := 1) sc_codes.nd rfl (Or.inl rfl) (pe_m1 PySem.F.slot_str_find PySem.F.type_str_find mt_find (Fx.pe_cst T.c_ROW3) (pv 0)))
        (pss_cons (ps_if (pt_cmpR op_ge (pv 1) pe_int (nomark _)) (pss_one (ps_ret (pe_tup (Fx.pa_c pe_int (Fx.pa_c (pv 1) pa_nil))))) pss_nil)
        (pss_one (ps_ret (pe_tup (Fx.pa_c pe_int (Fx.pa_c (pe_op op_fdiv (Fx.pe_cB Fx.ord_S T.b_ord (by decide +kernel) (Fx.pa_c (pv 0) pa_nil)) pe_int) (Fx.pa_c (pe_op op_andM (Fx.pe_cB Fx.ord_S T.b_ord (by decide +kernel) (Fx.pa_c (pv 0) pa_nil)) pe_int) pa_nil)))))))))))), ?_⟩
    obtain ⟨c, rfl, q⟩ := h
    walk_at "rd"
    have fin : ∀ (p : Addr) (xs : List V), xs = (codeL c).map V.int → H p = none → Q (.ref p) (upd H p (.tup xs)) := fun p xs e np => q p _ (same_new np) np (by rw [upd_same, e])
    refine ite_i (fun h1 => ⟨by decide, fun p np => fin p _ ?_ np⟩) (fun h1 => ite_i (fun h2 => ⟨by decide, fun p np => fin p _ ?_ np⟩) (fun h2 => ite_i (fun h3 => ⟨by decide, fun p np => fin p _ ?_ np⟩) (fun h3 => ⟨rfl, ⟨by decide, by decide⟩, rfl, 4, by decide, by decide, fun p np => fin p _ ?_ np⟩)))
    · unfold codeL
      rw [if_pos (show 0 ≤ Txt.find rowA (S1 c) from h1)]
      rfl
    · unfold codeL
      rw [if_neg (show ¬ 0 ≤ Txt.find rowA (S1 c) from h1), if_pos (show 0 ≤ Txt.find rowB (S1 c) from h2)]
      rfl
    · unfold codeL
      rw [if_neg (show ¬ 0 ≤ Txt.find rowA (S1 c) from h1), if_neg (show ¬ 0 ≤ Txt.find rowB (S1 c) from h2), if_pos (show 0 ≤ Txt.find rowC (S1 c) from h3)]
      rfl
    · unfold codeL
      rw [if_neg (show ¬ 0 ≤ Txt.find rowA (S1 c) from h1), if_neg (show ¬ 0 ≤ Txt.find rowB (S1 c) from h2), if_neg (show ¬ 0 ≤ Txt.find rowC (S1 c) from h3)]
      rfl
end
section
variable {P : Program} {w : World} {K : PySem.W.Frag} {mg : Str → Option Value} {base : Heap}
theorem ok_plain_codes (S : Src K mg "plain_codes" s_plain_codes) (T : Tx P K mg) (C_codes : Cal P w K mg base CX0 1 "codes" ["sign"] spCodes)  : Cal P w K mg base CX0 2 "plain_codes" ["text"] spPlain := by
  refine S.cal sc_plain_codes bn_plain_codes (fun vs H Q E h => ?_) (fun f cdv A outer s H vs Q E hr h => ?_)
  · first | (obtain ⟨rfl, _⟩ := h; rfl) | (obtain ⟨_, rfl, _⟩ := h; rfl) | (obtain ⟨_, _, rfl, _⟩ := h; rfl) | (obtain ⟨_, _, _, rfl, _⟩ := h; rfl) | (obtain ⟨_, _, _, _, rfl, _⟩ := h; rfl) | (obtain ⟨_, _, _, _, _, rfl, _⟩ := h; rfl) | (obtain ⟨_, _, _, _, _, _, rfl, _⟩ := h; rfl) | (obtain ⟨_, _, _, _, _, _, _, rfl, _⟩ := h; rfl) | (obtain ⟨_, _, _, _, _, _, _, _, rfl, _⟩ := h; rfl) | (obtain ⟨_, _, _, _, _, _, _, _, _, rfl, _⟩ := h; rfl)
  · skip
    refine ⟨_, (pss_cons (ps_set (i := 1) sc_plain_codes.nd rfl (Or.inl rfl) (pe_lst pa_nil))
        (pss_cons (ps_for PassesOwn.never rfl (pi_str (pv 0)) (pg_name (i := 2) sc_plain_codes.nd rfl (Or.inl rfl)) (pss_one (ps_expr (pe_bm PySem.F.plainAttrs_list PySem.F.slot_list_extend PySem.F.type_list_extend mt_extQ (pv 1) (Fx.pa_c (Fx.pe_cal C_codes (hr.mono (by decide)) pass0 (Fx.pa_c (pv 2) pa_nil)) pa_nil)))))
        (pss_one (ps_ret (pv 1))))), ?_⟩
    obtain ⟨z, rfl, hz, q⟩ := h
    refine seqI fun K1 k1 => ?_
    walk_at "rd"
    refine ⟨by decide, fun p np => k1 _ _ ?_⟩
    clear k1
    refine seqI fun K1 k1 => ?_
    refine ⟨.str z, rfl, z, rfl, for_S (z := z) (fun i σ H' => ∃ v, σ = [some (.str z), some (.ref p), v] ∧ H' p = some (.lst (mi (((z.cps.toList.take i).map codeL).flatten))) ∧ Same H H') ⟨none, rfl, upd_same, same_new np⟩ ?_ ?_⟩
    · rintro i c σ H' hc ⟨v, rfl, hp, sH⟩
      clear k1
      walk_at "rd"
      refine ⟨tyL hp, c, rfl, fun p1 H1 s1 n1 h1 => ⟨p1, rfl, _, s1 _ _ hp, _, .inr h1, ?_, ?_, Same.put (sH.trans s1) np⟩⟩
      · have l1 := flat_len (z.cps.toList.take i)
        have l2 := codeL_len c
        rw [List.length_take] at l1
        have lz : z.cps.toList.length ≤ 1000 := by rw [Array.length_toList]; exact hz
        rw [mi_len, List.length_map]
        exact sz (by omega)
      · rw [List.take_add_one, hc]
        simp
    · rintro σ H' ⟨v, rfl, hp, sH⟩
      refine k1 _ _ ?_
      walk_at "rd"
      refine q p H' sH np ?_
      rw [hp, List.take_length]
      rfl
end
section
variable {P : Program} {w : World} {K : PySem.W.Frag} {mg : Str → Option Value} {base : Heap}
theorem ok_Lot_M_half_bytes {f0 : Addr} {fd : FuncData} (F : FunD K "half_bytes" "Lot.half_bytes" (defArgs s_Lot_M_half_bytes) (defBody s_Lot_M_half_bytes) (defScope s_Lot_M_half_bytes) [] [] f0 fd) (M : Meth K (He.ga K "Lot") "half_bytes" f0) (T : Tx P K mg) (C_pieces : Cal P w K mg base CX0 1 "pieces" ["text"] spPieces) (C_plain_codes : Cal P w K mg base CX0 2 "plain_codes" ["text"] spPlain)  : CalM P w K mg base CX0 3 (He.ga K "Lot") "half_bytes" ["self", "text"] (spHalf K) := by
  refine ⟨f0, fd, M, F.bindsN bn_Lot_M_half_bytes, ok0 F sc_Lot_M_half_bytes (fun vs H Q E h => ?_) (fun f cdv A outer s H vs Q E hr h => ?_)⟩
  · first | (obtain ⟨rfl, _⟩ := h; rfl) | (obtain ⟨_, rfl, _⟩ := h; rfl) | (obtain ⟨_, _, rfl, _⟩ := h; rfl) | (obtain ⟨_, _, _, rfl, _⟩ := h; rfl) | (obtain ⟨_, _, _, _, rfl, _⟩ := h; rfl) | (obtain ⟨_, _, _, _, _, rfl, _⟩ := h; rfl) | (obtain ⟨_, _, _, _, _, _, rfl, _⟩ := h; rfl) | (obtain ⟨_, _, _, _, _, _, _, rfl, _⟩ := h; rfl) | (obtain ⟨_, _, _, _, _, _, _, _, rfl, _⟩ := h; rfl) | (obtain ⟨_, _, _, _, _, _, _, _, _, rfl, _⟩ := h; rfl)
  · skip
    refine ⟨_, (pss_cons (ps_set (i := 2) sc_Lot_M_half_bytes.nd rfl (Or.inl rfl) (pe_lst pa_nil))
        (pss_cons (ps_for PassesOwn.never rfl (pi_list (Fx.pe_cal C_pieces (hr.mono (by decide)) pass0 (Fx.pa_c (pv 1) pa_nil))) (pg_name (i := 3) sc_Lot_M_half_bytes.nd rfl (Or.inl rfl)) (pss_one (ps_if (pt_cmpR Fx.in_F (pv 3) (Fx.pe_fldK (K := K) rfl (pv 0) rfl) rfl) (pss_one (ps_expr (pe_bm PySem.F.plainAttrs_list PySem.F.slot_list_extend PySem.F.type_list_extend mt_extend (pv 2) (Fx.pa_c (pe_lst (Fx.pa_c pe_int (Fx.pa_c (Fx.pe_bmF PySem.F.slot_tuple_index PySem.F.type_tuple_index Fx.idx_F (Fx.pe_fldK (K := K) rfl (pv 0) rfl) (Fx.pa_c (pv 3) pa_nil)) pa_nil))) pa_nil)))) (pss_one (ps_expr (pe_bm PySem.F.plainAttrs_list PySem.F.slot_list_extend PySem.F.type_list_extend mt_extend (pv 2) (Fx.pa_c (Fx.pe_cal C_plain_codes (hr.mono (by decide)) pass0 (Fx.pa_c (pv 3) pa_nil)) pa_nil)))))))
        (pss_cons (ps_expr (pe_bm PySem.F.plainAttrs_list PySem.F.slot_list_extend PySem.F.type_list_extend mt_extend (pv 2) (Fx.pa_c (pe_lst (Fx.pa_c pe_int (Fx.pa_c pe_int (Fx.pa_c pe_int pa_nil)))) pa_nil)))
        (pss_one (ps_ret (pv 2)))))), ?_⟩
    obtain ⟨x, z, ws, rfl, hL, hz, q⟩ := h
    refine seqI fun K1 k1 => ?_
    walk_at "rd"
    refine ⟨by decide, ?_⟩
    intro pr nr
    generalize e_pr : upd H pr _ = H1
    have s1 := new_s nr e_pr
    have hr := new_h e_pr
    clear e_pr
    refine k1 _ _ ?_
    clear k1
    refine seqI fun K1 k1 => ?_
    refine forI fun R kR => ?_
    walk_at "rd"
    refine ⟨z, rfl, hz, fun pp H2 s2 np hp => ⟨pp, rfl, ⟨_, .inl (.inl hp)⟩, kR _ _ ?_⟩⟩
    clear kR
    have ne : pp ≠ pr := fun e => by rw [e, hr] at np; cases np
    have hr2 := s2 _ _ hr
    have pm := pieces_many z
    refine for_list (K := K) (a := pp) (xs := ms (pieces z)) (fun i σ H' => ∃ v3, σ = [some (.ref x), some (.str z), some (.ref pr), v3] ∧ H' pr = some (.lst (mi (((pieces z).take i).map (half1 ws)).flatten)) ∧ H' pp = some (.lst (ms (pieces z))) ∧ Same H H') ⟨none, rfl, hr2, hp, s1.trans s2⟩ (fun i σ H' _ ⟨_, _, _, e, _⟩ => .inl (.inl e)) ?_ ?_
    · rintro i y σ H3 hy ⟨v3, rfl, h3, hp3, s3⟩
      clear k1
      have hi := (List.getElem?_eq_some_iff.mp hy).1
      rw [List.length_map] at hi
      rw [List.getElem?_map, List.getElem?_eq_getElem hi] at hy
      have ey : y = .str (pieces z)[i] := (Option.some.inj hy).symm
      subst ey
      obtain ⟨p1, p2⟩ := pieces_len (List.getElem_mem hi)
      have tk : List.take (i + 1) (pieces z) = List.take i (pieces z) ++ [(pieces z)[i]] := by
        rw [List.take_add_one, List.getElem?_eq_getElem hi]
        rfl
      have ll : ((((pieces z).take i).map (half1 ws)).flatten).length ≤ 3 * z.length := by
        refine Nat.le_trans (halves_len ws fun p hp => pg_pos _ _ p (List.mem_of_mem_take hp)) ?_
        have := sum_take (pieces z) i
        rw [pieces_sum] at this
        omega
      obtain ⟨ok, dx, p, hx, hw⟩ := hL.same s3
      have put : ∀ (l : List Int) (H4 : Hp), half1 ws (pieces z)[i] = l → Same H3 H4 → (mi ((((pieces z).take i).map (half1 ws)).flatten)).length + (mi l).length ≤ sizeLine ∧ mi ((((pieces z).take i).map (half1 ws)).flatten) ++ mi l = mi (((pieces z).take (i + 1)).map (half1 ws)).flatten ∧ (upd H4 pr (.lst (mi ((((pieces z).take i).map (half1 ws)).flatten) ++ mi l))) pp = some (.lst (ms (pieces z))) ∧ Same H (upd H4 pr (.lst (mi ((((pieces z).take i).map (half1 ws)).flatten) ++ mi l))) := by
        intro l H4 el s4
        refine ⟨?_, ?_, ?_, Same.put (s3.trans s4) nr⟩
        · have := half1_len ws p1
          rw [el] at this
          rw [mi_len, mi_len]
          exact sz (by omega)
        · rw [tk, ← el, List.map_append, List.flatten_append, mi_app]
          simp
        · rw [upd_ne ne]
          exact s4 _ _ hp3
      walk_at "rd"
      refine ⟨_, _, _, hx, T.cl_Lot, T.n_Lot_words, _, rfl, p, rfl, ws, hw, ite_i (fun hm => ?_) (fun hm => ?_)⟩
      · refine ⟨tyL h3, _, _, _, hx, T.cl_Lot, T.n_Lot_words, _, rfl, p, rfl, ⟨_, hw⟩, p, rfl, ws, hw, hm, by decide, ?_⟩
        intro pn nn
        generalize e_pn : upd H3 pn _ = H4
        have s4 := new_s nn e_pn
        have h4 := new_h e_pn
        clear e_pn
        try (first | replace hr := s4 _ _ hr | replace hr := hr.same s4 | replace hr := hr.then s4 | replace hr := hr.trans s4)
        exact ⟨_, s4 _ _ h3, put [14, (ws.idxOf (pieces z)[i] : Nat)] H4 (by rw [half1, if_pos hm]) s4⟩
      · refine ⟨tyL h3, _, rfl, by omega, fun pn H4 s4 nn h4 => ⟨pn, rfl, _, s4 _ _ h3, _, h4, put (clist (pieces z)[i]) H4 (by rw [half1, if_neg hm]) s4⟩⟩
    rintro σ H3 ⟨v3, rfl, h3, hp3, s3⟩
    refine k1 _ _ ?_
    clear k1
    rw [List.length_map, List.take_of_length_le (Nat.le_refl _)] at h3
    refine seqI fun K1 k1 => ?_
    walk_at "rd"
    refine ⟨tyL h3, by decide, ?_⟩
    intro pn nn
    generalize e_pn : upd H3 pn _ = H4
    have s4 := new_s nn e_pn
    have h4 := new_h e_pn
    clear e_pn
    try (first | replace hr := s4 _ _ hr | replace hr := hr.same s4 | replace hr := hr.then s4 | replace hr := hr.trans s4)
    try (first | replace h4 := s4 _ _ h4 | replace h4 := h4.same s4 | replace h4 := h4.then s4 | replace h4 := h4.trans s4)
    have hl := half_len ws z
    unfold half at hl q
    rw [List.length_append] at hl
    refine ⟨_, s4 _ _ h3, ?_, k1 _ _ ?_⟩
    · rw [mi_len]
      exact sz (show _ + 3 ≤ 100000 by have : ([15, 0, 0] : List Int).length = 3 := rfl; omega)
    clear k1
    walk_at "rd"
    refine q _ _ (Same.put (s3.trans s4) nr) nr ?_
    rw [upd_same, mi_app]
    rfl
end
section
variable {P : Program} {w : World} {K : PySem.W.Frag} {mg : Str → Option Value} {base : Heap}
theorem ok_half_at (S : Src K mg "half_at" s_half_at) (T : Tx P K mg)   : Cal P w K mg base CX0 1 "half_at" ["row", "start", "place"] spHalfAt := by
  refine S.cal sc_half_at bn_half_at (fun vs H Q E h => ?_) (fun f cdv A outer s H vs Q E hr h => ?_)
  · first | (obtain ⟨rfl, _⟩ := h; rfl) | (obtain ⟨_, rfl, _⟩ := h; rfl) | (obtain ⟨_, _, rfl, _⟩ := h; rfl) | (obtain ⟨_, _, _, rfl, _⟩ := h; rfl) | (obtain ⟨_, _, _, _, rfl, _⟩ := h; rfl) | (obtain ⟨_, _, _, _, _, rfl, _⟩ := h; rfl) | (obtain ⟨_, _, _, _, _, _, rfl, _⟩ := h; rfl) | (obtain ⟨_, _, _, _, _, _, _, rfl, _⟩ := h; rfl) | (obtain ⟨_, _, _, _, _, _, _, _, rfl, _⟩ := h; rfl) | (obtain ⟨_, _, _, _, _, _, _, _, _, rfl, _⟩ := h; rfl)
  · skip
    refine ⟨_, (pss_cons (ps_set (i := 3) sc_half_at.nd rfl (Or.inl rfl) (pe_op op_add (pv 1) (pe_op op_fdiv (pv 2) pe_int)))
        (pss_cons (ps_if (pt_cmpR op_ge (pv 3) (Fx.pe_cB Fx.len_Q T.b_len (by decide +kernel) (Fx.pa_c (pv 0) pa_nil)) (nomark _)) (pss_one (ps_ret pe_non)) pss_nil)
        (pss_cons (ps_if (pt_truth (pe_op op_odd (pv 2) pe_int) (by intro _; rfl)) (pss_one (ps_ret (pe_op op_andM (pe_ix Fx.ix_Q (pv 0) (pv 3) (fun _ _ => rfl)) pe_int))) pss_nil)
        (pss_one (ps_ret (pe_op op_fdiv (pe_ix Fx.ix_Q (pv 0) (pv 3) (fun _ _ => rfl)) pe_int)))))), ?_⟩
    obtain ⟨p, l, st, pl, rfl, hp, hb, hl, q⟩ := h
    rw [nib_at, List.getElem?_drop] at q
    have e2 : ((st : Int) + (pl : Int) / 2) = ((st + pl / 2 : Nat) : Int) := by omega
    refine seqI fun K1 k1 => ?_
    walk_at "rd"
    refine ⟨⟨by decide, by decide⟩, k1 _ _ ?_⟩
    clear k1
    rw [e2]
    generalize st + pl / 2 = a at q
    refine seqI fun K1 k1 => ?_
    walk_at "rd"
    refine ⟨_, hp, ite_i (fun h1 => ?_) (fun h1 => k1 _ _ ?_)⟩
    · rw [mi_len] at h1
      rw [List.getElem?_eq_none (by omega)] at q
      exact q
    clear k1
    rw [mi_len] at h1
    have ha : a < l.length := by omega
    rw [List.getElem?_eq_getElem ha] at q
    have g : atI (mi l) (a : Int) = some (.int l[a]) := atI_get (by simp [mi, ha])
    have h0 := hb l[a] (List.getElem_mem ha)
    refine seqI fun K1 k1 => ?_
    walk_at "rd"
    refine ⟨pl, rfl, ?_⟩
    unfold TruV
    simp only [exists_eq_left]
    refine ite_i (fun h2 => ?_) (fun h2 => k1 _ _ ?_)
    · refine ⟨_, hp, _, g, _, rfl, 4, by decide, ?_⟩
      have h3 : pl % 2 = 1 := by
        have : ((pl % 2 : Nat) : Int) ≠ 0 := by simpa using h2
        omega
      simp only [if_pos h3, Option.map_some, optI] at q
      exact q
    · clear k1
      have h3 : ¬ pl % 2 = 1 := by
        intro e
        rw [e] at h2
        exact h2 rfl
      simp only [if_neg h3, Option.map_some, optI] at q
      walk_at "rd"
      refine ⟨_, hp, _, g, _, rfl, ⟨by decide, by decide⟩, ?_⟩
      exact q
end
section
variable {P : Program} {w : World} {K : PySem.W.Frag} {mg : Str → Option Value} {base : Heap}
theorem ok_sign_of (S : Src K mg "sign_of" s_sign_of) (T : Tx P K mg)   : Cal P w K mg base CX0 1 "sign_of" ["code"] spSignOf := by
  refine S.cal sc_sign_of bn_sign_of (fun vs H Q E h => ?_) (fun f cdv A outer s H vs Q E hr h => ?_)
  · first | (obtain ⟨rfl, _⟩ := h; rfl) | (obtain ⟨_, rfl, _⟩ := h; rfl) | (obtain ⟨_, _, rfl, _⟩ := h; rfl) | (obtain ⟨_, _, _, rfl, _⟩ := h; rfl) | (obtain ⟨_, _, _, _, rfl, _⟩ := h; rfl) | (obtain ⟨_, _, _, _, _, rfl, _⟩ := h; rfl) | (obtain ⟨_, _, _, _, _, _, rfl, _⟩ := h; rfl) | (obtain ⟨_, _, _, _, _, _, _, rfl, _⟩ := h; rfl) | (obtain ⟨_, _, _, _, _, _, _, _, rfl, _⟩ := h; rfl) | (obtain ⟨_, _, _, _, _, _, _, _, _, rfl, _⟩ := h; rfl)
  · skip
    refine ⟨_, (pss_cons (ps_if (pt_cmpR op_eq (pv 0) pe_int (nomark _)) (pss_one (ps_ret pe_str)) pss_nil)
        (pss_cons (ps_if (PW.pt (pw_and (pt_chain op_le op_le pe_int (pv 0) pe_int) (pw_and1 (pt_cmpR op_ne (pv 0) pe_int (nomark _))))) (pss_one (ps_ret (pe_ix Fx.ix_S (Fx.pe_cst T.c_SIGNS) (pe_op op_sub (pv 0) pe_int) (fun _ _ => rfl)))) pss_nil)
        (pss_one (ps_ret pe_non)))), ?_⟩
    obtain ⟨n, rfl, h0, h1, q⟩ := h
    obtain ⟨m, rfl⟩ : ∃ m : Nat, n = (m : Int) := ⟨n.toNat, by omega⟩
    obtain ⟨t1, t2, t3⟩ := sgTab m (by omega)
    walk_at "rd"
    refine ite_i (fun h => ?_) (fun h => ?_)
    · rw [t1 (by omega)] at q
      exact q
    have none_ : ¬ (32 ≤ m ∧ m ≤ 126 ∧ m ≠ 37) → Q .non H := fun g => by
      rw [t3 (by omega) g] at q
      exact q
    refine ite_i (fun h2 => ite_i (fun h3 => ite_i (fun h4 => none_ (by omega)) (fun h4 => ⟨by decide, ?_⟩)) (fun h3 => none_ (by omega))) (fun h2 => none_ (by omega))
    rw [t2 (by omega) (by omega) (by omega)] at q
    have l95 : signs1.cps.toList.length = 95 := by decide +kernel
    have hl : m - 32 < signs1.cps.toList.length := by omega
    refine ⟨_, (by rw [show ((m : Int) - 32) = ((m - 32 : Nat) : Int) by omega]; exact atI_get (xs := signs1.cps.toList) (List.getElem?_eq_getElem hl)), ?_⟩
    rw [List.getD_eq_getElem?_getD, List.getElem?_eq_getElem hl] at q
    exact q
end
section
variable {P : Program} {w : World} {K : PySem.W.Frag} {mg : Str → Option Value} {base : Heap}
theorem ok_Lot_M_read_on {f0 : Addr} {fd : FuncData} (F : FunD K "read_on" "Lot.read_on" (defArgs s_Lot_M_read_on) (defBody s_Lot_M_read_on) (defScope s_Lot_M_read_on) [] [] f0 fd) (M : Meth K (He.ga K "Lot") "read_on" f0) (T : Tx P K mg) (C_half_at : Cal P w K mg base CX0 1 "half_at" ["row", "start", "place"] spHalfAt) (C_sign_of : Cal P w K mg base CX0 1 "sign_of" ["code"] spSignOf)  : CalM P w K mg base CX0 2 (He.ga K "Lot") "read_on" ["self", "row", "start"] (spReadOn K) := by
  refine ⟨f0, fd, M, F.bindsN bn_Lot_M_read_on, ok0 F sc_Lot_M_read_on (fun vs H Q E h => ?_) (fun f cdv A outer s H vs Q E hr h => ?_)⟩
  · first | (obtain ⟨rfl, _⟩ := h; rfl) | (obtain ⟨_, rfl, _⟩ := h; rfl) | (obtain ⟨_, _, rfl, _⟩ := h; rfl) | (obtain ⟨_, _, _, rfl, _⟩ := h; rfl) | (obtain ⟨_, _, _, _, rfl, _⟩ := h; rfl) | (obtain ⟨_, _, _, _, _, rfl, _⟩ := h; rfl) | (obtain ⟨_, _, _, _, _, _, rfl, _⟩ := h; rfl) | (obtain ⟨_, _, _, _, _, _, _, rfl, _⟩ := h; rfl) | (obtain ⟨_, _, _, _, _, _, _, _, rfl, _⟩ := h; rfl) | (obtain ⟨_, _, _, _, _, _, _, _, _, rfl, _⟩ := h; rfl)
  · skip
    refine ⟨_, (pss_cons (ps_set (i := 3) sc_Lot_M_read_on.nd rfl (Or.inl rfl) pe_str)
        (pss_cons (ps_set (i := 4) sc_Lot_M_read_on.nd rfl (Or.inl rfl) pe_int)
        (pss_cons (ps_while PassesOwn.never (pt_cmpR op_le (Fx.pe_cB Fx.len_S T.b_len (by decide +kernel) (Fx.pa_c (pv 3) pa_nil)) (Fx.pe_cst T.c_LONGEST) (nomark _)) (pss_cons (ps_set (i := 5) sc_Lot_M_read_on.nd rfl (Or.inl rfl) (Fx.pe_cal C_half_at (hr.mono (by decide)) pass0 (Fx.pa_c (pv 1) (Fx.pa_c (pv 2) (Fx.pa_c (pv 4) pa_nil)))))
        (pss_cons (ps_set (i := 6) sc_Lot_M_read_on.nd rfl (Or.inl rfl) (Fx.pe_cal C_half_at (hr.mono (by decide)) pass0 (Fx.pa_c (pv 1) (Fx.pa_c (pv 2) (Fx.pa_c (pe_op op_add (pv 4) pe_int) pa_nil)))))
        (pss_cons (ps_if (pt_cmpR op_isNon (pv 5) pe_non (nomark _)) (pss_one (ps_ret (pe_tup (Fx.pa_c pe_non (Fx.pa_c pe_int pa_nil))))) pss_nil)
        (pss_cons (ps_if (pt_cmpR op_lt (pv 5) pe_int (nomark _)) (pss_cons (ps_aug (i := 3) sc_Lot_M_read_on.nd rfl (Or.inl rfl) (pe_ix Fx.ix_S (Fx.pe_cst T.c_ROW1) (pv 5) (fun _ _ => rfl)) Fx.ip_addZ)
        (pss_cons (ps_aug (i := 4) sc_Lot_M_read_on.nd rfl (Or.inl rfl) pe_int ip_add)
        (pss_one ps_continue))) pss_nil)
        (pss_cons (ps_if (pt_cmpR op_isNon (pv 6) pe_non (nomark _)) (pss_one (ps_ret (pe_tup (Fx.pa_c pe_non (Fx.pa_c pe_int pa_nil))))) pss_nil)
        (pss_cons (ps_aug (i := 4) sc_Lot_M_read_on.nd rfl (Or.inl rfl) pe_int ip_add)
        (pss_one (ps_if (pt_cmpR op_eq (pv 5) pe_int (nomark _)) (pss_one (ps_aug (i := 3) sc_Lot_M_read_on.nd rfl (Or.inl rfl) (pe_ix Fx.ix_S (Fx.pe_cst T.c_ROW2) (pv 6) (fun _ _ => rfl)) Fx.ip_addZ)) (pss_one (ps_if (pt_cmpR op_eq (pv 5) pe_int (nomark _)) (pss_one (ps_aug (i := 3) sc_Lot_M_read_on.nd rfl (Or.inl rfl) (pe_ix Fx.ix_S (Fx.pe_cst T.c_ROW3) (pv 6) (fun _ _ => rfl)) Fx.ip_addZ)) (pss_one (ps_if (pt_cmpR op_eq (pv 5) pe_int (nomark _)) (pss_cons (ps_if (pt_cmpR op_ge (pv 6) (Fx.pe_cB Fx.len_F T.b_len (by decide +kernel) (Fx.pa_c (Fx.pe_fldK (K := K) rfl (pv 0) rfl) pa_nil)) (nomark _)) (pss_one (ps_ret (pe_tup (Fx.pa_c pe_non (Fx.pa_c pe_int pa_nil))))) pss_nil)
        (pss_one (ps_aug (i := 3) sc_Lot_M_read_on.nd rfl (Or.inl rfl) (pe_ix Fx.ix_F (Fx.pe_fldK (K := K) rfl (pv 0) rfl) (pv 6) (fun _ _ => rfl)) Fx.ip_addZ))) (pss_cons (ps_set (i := 7) sc_Lot_M_read_on.nd rfl (Or.inl rfl) (Fx.pe_cal C_half_at (hr.mono (by decide)) pass0 (Fx.pa_c (pv 1) (Fx.pa_c (pv 2) (Fx.pa_c (pv 4) pa_nil)))))
        (pss_cons (ps_aug (i := 4) sc_Lot_M_read_on.nd rfl (Or.inl rfl) pe_int ip_add)
        (pss_cons (ps_if (pt_cmpR op_isNon (pv 7) pe_non (nomark _)) (pss_one (ps_ret (pe_tup (Fx.pa_c pe_non (Fx.pa_c pe_int pa_nil))))) pss_nil)
        (pss_cons (ps_if (PW.pt (pw_and (pt_cmpR op_eq (pv 6) pe_int (nomark _)) (pw_and1 (pt_cmpR op_eq (pv 7) pe_int (nomark _))))) (pss_one (ps_ret (pe_tup (Fx.pa_c (pv 3) (Fx.pa_c (pv 4) pa_nil))))) pss_nil)
        (pss_cons (ps_set (i := 8) sc_Lot_M_read_on.nd rfl (Or.inl rfl) (Fx.pe_cal C_sign_of (hr.mono (by decide)) pass0 (Fx.pa_c (pe_op op_add (pe_op op_mul (pv 6) pe_int) (pv 7)) pa_nil)))
        (pss_cons (ps_if (pt_cmpR op_isNon (pv 8) pe_non (nomark _)) (pss_one (ps_ret (pe_tup (Fx.pa_c pe_non (Fx.pa_c pe_int pa_nil))))) pss_nil)
        (pss_one (ps_aug (i := 3) sc_Lot_M_read_on.nd rfl (Or.inl rfl) (pv 8) Fx.ip_addZ)))))))))))))))))))))
        (pss_one (ps_ret (pe_tup (Fx.pa_c pe_non (Fx.pa_c pe_int pa_nil)))))))), ?_⟩
    obtain ⟨x, p, ws, l, st, rfl, hL, hp, hb, hl, q⟩ := h
    refine seqI fun K1 k1 => ?_
    walk_at "rd"
    refine k1 _ _ ?_
    clear k1
    refine seqI fun K1 k1 => ?_
    walk_at "rd"
    refine k1 _ _ ?_
    clear k1
    refine seqI fun K1 k1 => ?_
    have h16 : NbOk (nib (l.drop st)) := nib_16 fun y hy => hb y (List.mem_of_mem_drop hy)
    have hw := hL.1.ok
    have at_ : ∀ (n : Nat) (i : Int) (Q1 : VK), i = (n : Nat) → Q1 (optI ((nib (l.drop st))[n]?)) H → spHalfAt [.ref p, .int st, .int i] H Q1 E0 := fun n i Q1 e k => ⟨p, l, st, n, by rw [e], hp, hb, hl, k⟩
    generalize nib (l.drop st) = hs at *
    generalize eR : rdP ws 202 hs "" 0 = R at q
    obtain ⟨W, hW⟩ : ∃ W : Nat → L2.St → Hp → Prop, W = fun m σ H' => ∃ (t : Str) (n : Nat) (v5 v6 v7 v8 : Option V), σ = [some (.ref x), some (.ref p), some (.int st), some (.str t), some (.int (n : Nat)), v5, v6, v7, v8] ∧ H' = H ∧ rdP ws m (hs.drop n) t n = R ∧ 202 ≤ t.length + m ∧ t.length ≤ 300 := ⟨_, rfl⟩
    refine whileF W 202 (by rw [hW]; exact ⟨"", 0, none, none, none, none, rfl, rfl, eR, by decide, by decide⟩) ?_
    rintro m σ H' w A B ka kb
    rw [hW] at w
    obtain ⟨t, n, v5, v6, v7, v8, rfl, rfl, e, hm, ht⟩ := w
    walk_at "rd"
    refine ⟨sz (by omega), ite_i (fun h1 => ka _ ?_) (fun h1 => kb _ ?_)⟩
    rotate_left
    · refine k1 _ _ ?_
      walk_at "rd"
      refine ⟨by decide, fun q1 nq => q q1 _ (same_new nq) nq ?_⟩
      rw [upd_same, ← e]
      cases m with
      | zero => rfl
      | succ m =>
        rw [rdP, if_neg (by omega)]
        rfl
    clear ka kb k1
    obtain ⟨m, rfl⟩ : ∃ m', m = m' + 1 := ⟨m - 1, by omega⟩
    rw [rdP, if_pos (by omega)] at e
    have g0 : hs[n]? = (hs.drop n)[0]? := by rw [List.getElem?_drop]; rfl
    have g1 : hs[n + 1]? = (hs.drop n)[1]? := by rw [List.getElem?_drop]
    have g2 : hs[n + 2]? = (hs.drop n)[2]? := by rw [List.getElem?_drop]
    have dd : ∀ k : Nat, hs.drop (n + k) = (hs.drop n).drop k := fun k => by rw [List.drop_drop]
    have h16 : NbOk (hs.drop n) := dr16 h16 n
    have bad : nx fP ws (hs.drop n) = none → ∀ q1, H' q1 = none → Q (.ref q1) (upd H' q1 (.tup [.non, .int 0])) := fun k q1 nq => by
      rw [k] at e
      refine q q1 _ (same_new nq) nq ?_
      rw [upd_same, ← e]
      rfl
    have fin : ∀ (q1 : Addr) (i : Int), i = ((n + 3 : Nat) : Int) → nx fP ws (hs.drop n) = some (("" : Str), 3) → H' q1 = none → Q (.ref q1) (upd H' q1 (.tup [.str t, .int i])) := fun q1 i ei k nq => by
      rw [k] at e
      refine q q1 _ (same_new nq) nq ?_
      rw [upd_same, ← e, ei]
      rfl
    have go : ∀ (z : Str) (k : Nat) (i : Int) (v5 v6 v7 v8 : Option V), nx fP ws (hs.drop n) = some (z, k) → z ≠ "" → i = ((n + k : Nat) : Int) → ∃ m', m' < m + 1 ∧ W m' [some (.ref x), some (.ref p), some (.int st), some (.str (t ++ z)), some (.int i), v5, v6, v7, v8] H' := fun z k i v5 v6 v7 v8 e1 hz ei => by
      obtain ⟨_, _, l20, l1, _⟩ := nx_ok fP_ok hw h16 e1
      have := l1 hz
      rw [e1] at e
      dsimp only at e
      rw [if_neg hz] at e
      refine ⟨m, by omega, ?_⟩
      rw [hW]
      refine ⟨t ++ z, n + k, v5, v6, v7, v8, by rw [ei], rfl, ?_, ?_, ?_⟩
      · rw [dd]
        exact e
      · rw [len_app]
        omega
      · rw [len_app]
        omega
    refine seqI fun K1 k1 => ?_
    walk_at "rd"
    refine at_ n _ _ rfl (k1 _ _ ?_)
    clear k1
    refine seqI fun K1 k1 => ?_
    walk_at "rd"
    refine at_ (n + 1) _ _ (by omega) (k1 _ _ ?_)
    clear k1
    rw [g0, g1]
    have at2 : ∀ (i : Int) (Q1 : VK), i = ((n + 2 : Nat) : Int) → Q1 (optI ((hs.drop n)[2]?)) H' → spHalfAt [.ref p, .int st, .int i] H' Q1 E0 := fun i Q1 ei k => at_ (n + 2) i Q1 ei (by rw [g2]; exact k)
    clear at_ g0 g1 g2 dd hW eR
    generalize hs.drop n = h at *
    have two : ∀ c : Nat, t.length + (S1 c).length ≤ sizeLine := fun c => sz (show t.length + 1 ≤ 100000 by omega)
    cases h with
    | nil =>
      refine seqI fun K1 k1 => ?_
      simp only [List.getElem?_nil, optI]
      walk_at "rd"
      exact ⟨by decide, bad rfl⟩
    | cons a r =>
      have o1 : optI ((a :: r)[0]?) = .int a := rfl
      have o2 : optI ((a :: r)[1]?) = optI (r[0]?) := rfl
      have o3 : (a :: r)[2]? = r[1]? := rfl
      rw [o1, o2]
      rw [o3] at at2
      clear o1 o2 o3
      have a1 := h16 a List.mem_cons_self
      refine seqI fun K1 k1 => ?_
      walk_at "rd"
      refine k1 _ _ ?_
      clear k1
      refine seqI fun K1 k1 => ?_
      walk_at "rd"
      refine ite_i (fun h2 => ?_) (fun h2 => k1 _ _ ?_)
      · have e1 : nx fP ws (a :: r) = some (rowSg rowA a, 1) := by
          dsimp only [nx]
          rw [if_pos h2]
        exact ⟨by decide, _, rowAt rowA a1.1 (by rw [lA]; exact h2), two _, go (rowSg rowA a) 1 _ _ _ _ _ e1 (S1_ne _) (by omega)⟩
      clear k1
      cases r with
      | nil =>
        refine seqI fun K1 k1 => ?_
        simp only [List.getElem?_nil, optI]
        walk_at "rd"
        refine ⟨by decide, bad ?_⟩
        dsimp only [nx]
        rw [if_neg h2]
      | cons b r2 =>
        have o1 : optI ((b :: r2)[0]?) = .int b := rfl
        have o3 : (b :: r2)[1]? = r2[0]? := rfl
        rw [o1]
        rw [o3] at at2
        clear o1 o3
        have b1 := h16 b (List.mem_cons_of_mem _ List.mem_cons_self)
        refine seqI fun K1 k1 => ?_
        walk_at "rd"
        refine k1 _ _ ?_
        clear k1
        refine seqI fun K1 k1 => ?_
        walk_at "rd"
        refine k1 _ _ ?_
        clear k1
        refine ifI fun A B ka kb => ?_
        walk_at "rd"
        refine ite_i (fun h3 => ka _ ?_) (fun h3 => kb _ ?_)
        · have en : nx fP ws (a :: b :: r2) = some (rowSg rowB b, 2) := by
            dsimp only [nx]
            rw [if_neg h2, if_pos h3]
          walk_at "rd"
          exact ⟨by decide, _, rowAt rowB b1.1 (by rw [lB]; exact b1.2), two _, go (rowSg rowB b) 2 _ _ _ _ _ en (S1_ne _) (by omega)⟩
        clear ka kb
        refine ifI fun A B ka kb => ?_
        walk_at "rd"
        refine ite_i (fun h4 => ka _ ?_) (fun h4 => kb _ ?_)
        · have en : nx fP ws (a :: b :: r2) = some (rowSg rowC b, 2) := by
            dsimp only [nx]
            rw [if_neg h2, if_neg h3, if_pos h4]
          walk_at "rd"
          exact ⟨by decide, _, rowAt rowC b1.1 (by rw [lC]; exact b1.2), two _, go (rowSg rowC b) 2 _ _ _ _ _ en (S1_ne _) (by omega)⟩
        clear ka kb
        refine ifI fun A B ka kb => ?_
        walk_at "rd"
        refine ite_i (fun h5 => ka _ ?_) (fun h5 => kb _ ?_)
        · have en : nx fP ws (a :: b :: r2) = (ws[b.toNat]?).map fun w => (w, 2) := by
            dsimp only [nx]
            rw [if_neg h2, if_neg h3, if_neg h4, if_pos h5]
          clear ka kb
          obtain ⟨ok, dx, pw, hx, hwp⟩ := hL
          have cl := T.cl_Lot
          have na := T.n_Lot_words
          have lw : ((ms ws).length : Int) = ws.length := by rw [List.length_map]
          refine seqI fun K1 k1 => ?_
          walk_at "rd"
          refine ⟨_, _, _, hx, cl, na, _, rfl, _, rfl, _, hwp, ite_i (fun h6 => ?_) (fun h6 => k1 _ _ ?_)⟩
          · rw [lw] at h6
            refine ⟨by decide, bad ?_⟩
            rw [en, List.getElem?_eq_none (by omega)]
            rfl
          clear k1
          rw [lw] at h6
          obtain ⟨bn, rfl⟩ : ∃ m : Nat, b = (m : Int) := ⟨b.toNat, by omega⟩
          have hbn : bn < ws.length := by omega
          rw [Int.toNat_natCast, List.getElem?_eq_getElem hbn] at en
          have hm := hw _ (List.getElem_mem hbn)
          have l20 := isSW_len hm
          walk_at "rd"
          refine ⟨_, _, _, hx, cl, na, _, rfl, _, rfl, _, hwp, _, atI_get (xs := ms ws) (i := bn) (by rw [List.getElem?_map, List.getElem?_eq_getElem hbn]; rfl), ws[bn], rfl, sz (by omega), go ws[bn] 2 _ _ _ _ _ en ?_ (by omega)⟩
          intro z
          rw [z] at l20
          exact absurd l20.1 (by decide)
        clear ka kb
        refine seqI fun K1 k1 => ?_
        walk_at "rd"
        refine at2 _ _ (by omega) (k1 _ _ ?_)
        clear k1
        refine seqI fun K1 k1 => ?_
        walk_at "rd"
        refine k1 _ _ ?_
        clear k1
        cases r2 with
        | nil =>
          refine seqI fun K1 k1 => ?_
          simp only [List.getElem?_nil, optI]
          walk_at "rd"
          refine ⟨by decide, bad ?_⟩
          dsimp only [nx]
          rw [if_neg h2, if_neg h3, if_neg h4, if_neg h5]
        | cons c r3 =>
          have o1 : optI ((c :: r3)[0]?) = .int c := rfl
          rw [o1]
          have c1 := h16 c (List.mem_cons_of_mem _ (List.mem_cons_of_mem _ List.mem_cons_self))
          refine seqI fun K1 k1 => ?_
          walk_at "rd"
          refine k1 _ _ ?_
          clear k1
          refine seqI fun K1 k1 => ?_
          refine ifI fun A B ka kb => ?_
          walk_at "rd"
          have bring : (b = 0 ∧ c = 0 → A H') → (¬ (b = 0 ∧ c = 0) → B H') → if b = 0 then (if c = 0 then A H' else B H') else B H' := fun g1 g2 => ite_i (fun q1 => ite_i (fun q2 => g1 ⟨q1, q2⟩) (fun q2 => g2 fun k => q2 k.2)) (fun q1 => g2 fun k => q1 k.1)
          refine bring (fun g => ka _ ?_) (fun g => kb _ ?_)
          · walk_at "rd"
            refine ⟨by decide, fun q1 nq => fin q1 _ (by omega) ?_ nq⟩
            dsimp only [nx]
            rw [if_neg h2, if_neg h3, if_neg h4, if_neg h5, if_pos g]
          clear bring ka kb
          have en : nx fP ws (a :: b :: c :: r3) = (fP (b * 16 + c)).map fun z => (z, 3) := by
            dsimp only [nx]
            rw [if_neg h2, if_neg h3, if_neg h4, if_neg h5, if_neg g]
          walk_at "rd"
          refine k1 _ _ ?_
          clear k1
          refine seqI fun K1 k1 => ?_
          walk_at "rd"
          refine ⟨.inl ⟨by omega, by omega⟩, _, rfl, by omega, by omega, k1 _ _ ?_⟩
          clear k1
          cases eP : fP (b * 16 + c) with
          | none =>
            rw [eP] at en
            refine seqI fun K1 k1 => ?_
            simp only [optS]
            walk_at "rd"
            exact ⟨by decide, bad en⟩
          | some z =>
            rw [eP] at en
            obtain ⟨d, rfl, _⟩ := fP_ok _ _ eP
            refine seqI fun K1 k1 => ?_
            simp only [optS]
            walk_at "rd"
            refine k1 _ _ ?_
            clear k1
            walk_at "rd"
            exact ⟨two d, go (S1 d) 3 _ _ _ _ _ en (S1_ne _) (by omega)⟩
end
section
variable {P : Program} {w : World} {K : PySem.W.Frag} {mg : Str → Option Value} {base : Heap}
theorem ok_is_text (S : Src K mg "is_text" s_is_text) (T : Tx P K mg)   : Cal P w K mg base CX0 1 "is_text" ["thing"] spIsText := by
  refine S.cal sc_is_text bn_is_text (fun vs H Q E h => ?_) (fun f cdv A outer s H vs Q E hr h => ?_)
  · first | (obtain ⟨rfl, _⟩ := h; rfl) | (obtain ⟨_, rfl, _⟩ := h; rfl) | (obtain ⟨_, _, rfl, _⟩ := h; rfl) | (obtain ⟨_, _, _, rfl, _⟩ := h; rfl) | (obtain ⟨_, _, _, _, rfl, _⟩ := h; rfl) | (obtain ⟨_, _, _, _, _, rfl, _⟩ := h; rfl) | (obtain ⟨_, _, _, _, _, _, rfl, _⟩ := h; rfl) | (obtain ⟨_, _, _, _, _, _, _, rfl, _⟩ := h; rfl) | (obtain ⟨_, _, _, _, _, _, _, _, rfl, _⟩ := h; rfl) | (obtain ⟨_, _, _, _, _, _, _, _, _, rfl, _⟩ := h; rfl)
  · skip
    refine ⟨_, (pss_cons (ps_if (PW.pt (pw_or (pt_not (pt_val (Fx.pe_cB Fx.is_B T.b_isinstance (by decide +kernel) (Fx.pa_c (pv 0) (Fx.pa_c (pe_bltn (v := .ty "str") (by rfl) T.b_str (by decide +kernel) rfl) pa_nil))))) (pw_or1 (pt_cmpR op_gt (Fx.pe_cB Fx.len_S T.b_len (by decide +kernel) (Fx.pa_c (pv 0) pa_nil)) (Fx.pe_cst T.c_LONGEST) (nomark _))))) (pss_one (ps_ret pe_bl)) pss_nil)
        (pss_one (ps_ret (Fx.pe_cB (Fx.all_L rfl) T.b_all (by decide +kernel) (Fx.pa_c (pe_lc (own := [("sign", 1)]) rfl sc_is_text.nd (pi_str (pv 0)) (blkOk_by (N := N_is_text) (sc := defScope s_is_text) (by decide +kernel)) (fun _ _ _ _ _ => (pg_name (i := 1) sc_is_text.nd rfl (Or.inl rfl))) (fun _ _ _ _ _ => pts_nil) (fun _ _ _ _ _ => (pe_cmpR op_in_sign (pv 1) (Fx.pe_cst T.c_SIGNS) rfl))) pa_nil))))), ?_⟩
    obtain ⟨z, rfl, hz, hs, q⟩ := h
    have lz : z.cps.toList.length = z.length := Array.length_toList
    refine seqI fun K1 k1 => ?_
    walk_at "rd"
    refine ⟨sz (by omega), ite_i (fun h1 => absurd h1 (by omega)) (fun h1 => ?_)⟩
    refine k1 _ _ ?_
    clear k1
    walk_at "rd"
    refine ⟨.str z, rfl, z, rfl, fun D nD => ?_⟩
    refine lc_S (z := z) (fun i H2 => H2 = upd H D (.lst (List.replicate i (V.bl true)))) rfl ?_ ?_
    · rintro i c H2 hc rfl
      refine ⟨rfl, ?_⟩
      walk_at "rd"
      have hi := (List.getElem?_eq_some_iff.mp hc).1
      refine ⟨c, rfl, ?_, ?_⟩
      · rw [List.length_replicate]
        exact Nat.lt_of_lt_of_le (by omega : _ < 2000) (by decide)
      · have e : decide (c ∈ (Str.ofString " !\"#$\n&'()*+,-./0123456789:;<=>?@ABCDEFGHIJKLMNOPQRSTUVWXYZ[\\]^_`abcdefghijklmnopqrstuvwxyz{|}~").cps.toList) = true := decide_eq_true (hs c (List.mem_of_getElem? hc))
        rw [upd_upd, e]
        show _ = upd H D (.lst (List.replicate (i + 1) (V.bl true)))
        rw [List.replicate_succ']
    · rintro H2 rfl
      refine ⟨D, rfl, List.replicate z.cps.toList.length true, ?_, ?_⟩
      · rw [upd_same, List.map_replicate]
      · rw [show (List.replicate z.cps.toList.length true).all id = true by simp]
        exact q _ (same_new nD)
end
section
variable {P : Program} {w : World} {K : PySem.W.Frag} {mg : Str → Option Value} {base : Heap}
theorem ok_pairs_of (S : Src K mg "pairs_of" s_pairs_of) (T : Tx P K mg)   : Cal P w K mg base CX0 1 "pairs_of" ["half_bytes"] spPairs := by
  refine S.cal sc_pairs_of bn_pairs_of (fun vs H Q E h => ?_) (fun f cdv A outer s H vs Q E hr h => ?_)
  · first | (obtain ⟨rfl, _⟩ := h; rfl) | (obtain ⟨_, rfl, _⟩ := h; rfl) | (obtain ⟨_, _, rfl, _⟩ := h; rfl) | (obtain ⟨_, _, _, rfl, _⟩ := h; rfl) | (obtain ⟨_, _, _, _, rfl, _⟩ := h; rfl) | (obtain ⟨_, _, _, _, _, rfl, _⟩ := h; rfl) | (obtain ⟨_, _, _, _, _, _, rfl, _⟩ := h; rfl) | (obtain ⟨_, _, _, _, _, _, _, rfl, _⟩ := h; rfl) | (obtain ⟨_, _, _, _, _, _, _, _, rfl, _⟩ := h; rfl) | (obtain ⟨_, _, _, _, _, _, _, _, _, rfl, _⟩ := h; rfl)
  · skip
    refine ⟨_, (pss_cons (ps_set (i := 1) sc_pairs_of.nd rfl (Or.inr rfl) (Fx.pe_cTy Fx.list_L T.b_list (by decide +kernel) (Fx.pa_c (pv 0) pa_nil)))
        (pss_cons (ps_if (pt_truth (pe_op op_odd (Fx.pe_cB Fx.len_L T.b_len (by decide +kernel) (Fx.pa_c (pv 1) pa_nil)) pe_int) (by intro _; rfl)) (pss_one (ps_expr (pe_bm PySem.F.plainAttrs_list PySem.F.slot_list_append PySem.F.type_list_append mt_append (pv 1) (Fx.pa_c pe_int pa_nil)))) pss_nil)
        (pss_one (ps_ret (Fx.pe_cTy Fx.tup_L T.b_tuple (by decide +kernel) (Fx.pa_c (pe_lc (own := [("place", 2)]) rfl sc_pairs_of.nd (pi_range3 rfl T.b_range (Fx.pa_c pe_int (Fx.pa_c (Fx.pe_cB Fx.len_L T.b_len (by decide +kernel) (Fx.pa_c (pv 1) pa_nil)) (Fx.pa_c pe_int pa_nil)))) (blkOk_by (N := N_pairs_of) (sc := defScope s_pairs_of) (by decide +kernel)) (fun _ _ _ _ _ => (pg_name (i := 2) sc_pairs_of.nd rfl (Or.inl rfl))) (fun _ _ _ _ _ => pts_nil) (fun _ _ _ _ _ => (pe_op op_add (pe_op op_mul (pe_ix Fx.ix_L (pv 1) (pv 2) (fun _ _ => rfl)) pe_int) (pe_ix Fx.ix_L (pv 1) (pe_op op_add (pv 2) pe_int) (fun _ _ => rfl))))) pa_nil)))))), ?_⟩
    obtain ⟨p, l, rfl, hp, hl, q⟩ := h
    refine seqI fun K1 k1 => ?_
    walk_at "rd"
    refine ⟨_, hp, ?_⟩
    intro pr nr
    generalize e_pr : upd H pr _ = H1
    have s1 := new_s nr e_pr
    have hr := new_h e_pr
    clear e_pr
    refine k1 _ _ ?_
    clear k1
    refine seqI fun K1 k1 => ?_
    have go : ∀ H2, Same H H2 → H2 pr = some (.lst (mi (pad2 l))) → K1 [some (V.ref p), some (V.ref pr), none] H2 := by
      intro H2 s2 h2
      refine k1 _ _ ?_
      clear k1
      walk_at "rd"
      have pl := pad2_len l
      have eh : (((mi (pad2 l)).length : Nat) : Int) = 2 * (((l.length + 1) / 2 : Nat) : Int) := by rw [mi_len, pl]; omega
      refine ⟨_, rfl, pr, _, rfl, h2, 0, _, 2, (l.length + 1) / 2, rfl, ?_, fun D nD => ?_⟩
      · refine rgC_up (by decide) (by decide) (by decide) (by decide) ?_ ?_ ?_
        · rw [eh]
          omega
        · rw [eh]
          omega
        · rw [eh]
          split <;> omega
      refine lc_rangeC (lo := 0) (c := 2) (fun i H3 => H3 = upd H2 D (.lst (mi ((List.range i).map fun k => (pad2 l).getD (2 * k) 0 * 16 + (pad2 l).getD (2 * k + 1) 0)))) rfl ?_ ?_
      · rintro i H3 hi rfl
        have s3 := same_new (o := .lst (mi ((List.range i).map fun k => (pad2 l).getD (2 * k) 0 * 16 + (pad2 l).getD (2 * k + 1) 0))) nD
        have i1 : 2 * i < (pad2 l).length := by omega
        have i2 : 2 * i + 1 < (pad2 l).length := by omega
        have g1 : atI (mi (pad2 l)) (0 + (i : Int) * 2) = some (.int (pad2 l)[2 * i]) := by
          rw [show (0 + (i : Int) * 2) = ((2 * i : Nat) : Int) by omega]
          exact atI_get (by simp [mi, i1])
        have g2 : atI (mi (pad2 l)) (0 + (i : Int) * 2 + 1) = some (.int (pad2 l)[2 * i + 1]) := by
          rw [show (0 + (i : Int) * 2 + 1) = ((2 * i + 1 : Nat) : Int) by omega]
          exact atI_get (by simp [mi, i2])
        refine ⟨rfl, ?_⟩
        walk_at "rd"
        refine ⟨_, s3 _ _ h2, _, g1, _, rfl, .inr ⟨by decide, by decide⟩, _, s3 _ _ h2, _, g2, _, rfl, ?_, ?_⟩
        · rw [mi_len, List.length_map, List.length_range]
          exact Nat.lt_of_lt_of_le (by omega : _ < 6000) (by decide)
        · rw [upd_upd, range_succ' (fun k => (pad2 l).getD (2 * k) 0 * 16 + (pad2 l).getD (2 * k + 1) 0), mi_app]
          simp [i1, i2]
      · rintro H3 rfl
        refine ⟨D, rfl, _, upd_same, fun t nt => q t _ ((s2.trans (same_new nD)).trans (same_new nt)) ((s2.trans (same_new nD)).free nt) upd_same⟩
    refine ifI fun A B ka kb => ?_
    walk_at "rd"
    refine ⟨_, hr, l.length, by rw [List.length_map], ?_⟩
    unfold TruV
    simp only [exists_eq_left]
    refine ite_i (fun h1 => ka _ ?_) (fun h1 => kb _ ?_)
    · walk_at "rd"
      refine ⟨tyL hr, _, hr, ?_, go _ (Same.put s1 nr) ?_⟩
      · rw [mi_len]
        exact Nat.lt_of_lt_of_le (by omega : _ < 20000) (by decide)
      · rw [upd_same]
        unfold pad2
        have h2 : l.length % 2 = 1 := by
          have : ((l.length % 2 : Nat) : Int) ≠ 0 := by simpa using h1
          omega
        rw [if_pos h2, mi_app]
        rfl
    · walk_at "rd"
      refine go _ s1 ?_
      unfold pad2
      have h2 : ¬ l.length % 2 = 1 := by
        intro e
        rw [e] at h1
        exact h1 (by decide)
      rw [if_neg h2]
      exact hr
end
section
variable {P : Program} {w : World} {K : PySem.W.Frag} {mg : Str → Option Value} {base : Heap}
theorem ok_Lot_M_back {f0 : Addr} {fd : FuncData} (F : FunD K "back" "Lot.back" (defArgs s_Lot_M_back) (defBody s_Lot_M_back) (defScope s_Lot_M_back) [(.int 0)] [] f0 fd) (M : Meth K (He.ga K "Lot") "back" f0) (T : Tx P K mg) (C_Lot_M_read_on : CalM P w K mg base CX0 2 (He.ga K "Lot") "read_on" ["self", "row", "start"] (spReadOn K)) (C_is_text : Cal P w K mg base CX0 1 "is_text" ["thing"] spIsText) (C_Lot_M_half_bytes : CalM P w K mg base CX0 3 (He.ga K "Lot") "half_bytes" ["self", "text"] (spHalf K)) (C_pairs_of : Cal P w K mg base CX0 1 "pairs_of" ["half_bytes"] spPairs)  : CalMD P w K mg base (L2.CX P w) 4 (He.ga K "Lot") "back" ["self", "row", "start"] (.int 0) "start" (spBack K) := by
  refine calMD_of F M 2 rfl bf_Lot_M_back bd_Lot_M_back bk_Lot_M_back (okXD F sc_Lot_M_back (fun vs H Q E h => ?_) (fun f cdv A outer s H vs Q E hr h => ?_))
  · first | (obtain ⟨rfl, _⟩ := h; rfl) | (obtain ⟨_, rfl, _⟩ := h; rfl) | (obtain ⟨_, _, rfl, _⟩ := h; rfl) | (obtain ⟨_, _, _, rfl, _⟩ := h; rfl) | (obtain ⟨_, _, _, _, rfl, _⟩ := h; rfl) | (obtain ⟨_, _, _, _, _, rfl, _⟩ := h; rfl) | (obtain ⟨_, _, _, _, _, _, rfl, _⟩ := h; rfl) | (obtain ⟨_, _, _, _, _, _, _, rfl, _⟩ := h; rfl) | (obtain ⟨_, _, _, _, _, _, _, _, rfl, _⟩ := h; rfl) | (obtain ⟨_, _, _, _, _, _, _, _, _, rfl, _⟩ := h; rfl)
  · skip
    obtain ⟨f_Lot_M_read_on, fd_Lot_M_read_on, m_Lot_M_read_on, b_Lot_M_read_on, G_Lot_M_read_on⟩ := C_Lot_M_read_on.ex
    obtain ⟨f_Lot_M_half_bytes, fd_Lot_M_half_bytes, m_Lot_M_half_bytes, b_Lot_M_half_bytes, G_Lot_M_half_bytes⟩ := C_Lot_M_half_bytes.ex
    refine ⟨_, (pss_cons (ps_asg (pe_meth (pv 0) T.cl_Lot m_Lot_M_read_on G_Lot_M_read_on (hr.mono (by decide)) b_Lot_M_read_on .nil pass0 (Fx.pa_c (pv 1) (Fx.pa_c (pv 2) pa_nil))) (pg_tup rfl (pgs_cons (pg_name (i := 3) sc_Lot_M_back.nd rfl (Or.inl rfl)) (pgs_cons (pg_name (i := 4) sc_Lot_M_back.nd rfl (Or.inl rfl)) pgs_nil))))
        (pss_cons (ps_if (PW.pt (pw_or (pt_cmpR op_isNon (pv 3) pe_non (nomark _)) (pw_or1 (pt_not (pt_val (Fx.pe_cal C_is_text (hr.mono (by decide)) pass0 (Fx.pa_c (pv 3) pa_nil))))))) (pss_one (Fx.ps_raiseFx rfl T.x_BadText T.g_BadText T.b_super hr (takes_of rfl rfl rfl rfl) (Fx.pa_c (pv 2) pa_nil))) pss_nil)
        (pss_cons (ps_set (i := 5) sc_Lot_M_back.nd rfl (Or.inl rfl) (pe_op op_add (pv 2) (pe_op op_fdiv (pe_op op_add (pv 4) pe_int) pe_int)))
        (pss_cons (ps_if (pt_cmpR (Fx.ne_TT hr.units) (Fx.pe_cal C_pairs_of (hr.mono (by decide)) pass0 (Fx.pa_c (pe_meth (pv 0) T.cl_Lot m_Lot_M_half_bytes G_Lot_M_half_bytes (hr.mono (by decide)) b_Lot_M_half_bytes .nil pass0 (Fx.pa_c (pv 3) pa_nil)) pa_nil)) (Fx.pe_cTy Fx.tup_Q T.b_tuple (by decide +kernel) (Fx.pa_c (pe_slice Fx.sl_Q (pv 1) (po_some (pv 2)) (po_some (pv 5))) pa_nil)) (nomark _)) (pss_one (Fx.ps_raiseFx rfl T.x_BadText T.g_BadText T.b_super hr (takes_of rfl rfl rfl rfl) (Fx.pa_c (pv 2) pa_nil))) pss_nil)
        (pss_one (ps_ret (pe_tup (Fx.pa_c (pv 3) (Fx.pa_c (pv 5) pa_nil))))))))), ?_⟩
    obtain ⟨x, p, ws, l, st, rfl, hL, hp, hb, hl, qs, qn⟩ := h
    have hL0 := hL
    obtain ⟨ok, dx, pw, hx, hw⟩ := hL0
    rw [← rdB_eq ok hb] at qs qn
    unfold rdB at qs qn
    have h16 := nib_16 (l := l.drop st) fun y hy => hb y (List.mem_of_mem_drop hy)
    refine seqI fun K1 k1 => ?_
    walk_at "rd"
    refine ⟨dx, _, hx, rfl, x, p, ws, l, st, rfl, hL, hp, hb, hl, fun q1 H1 s1 n1 h1 => ⟨q1, rfl, _, .inl (.inl h1), ?_⟩⟩
    cases e : rdP ws 202 (nib (l.drop st)) "" 0 with
    | none =>
      rw [e] at qs qn
      refine ⟨rfl, _, _, rfl, _, _, rfl, rfl, k1 _ _ ?_⟩
      refine seqI fun K1 k1 => ?_
      walk_at "rd"
      exact fun d nd => qn rfl d _ (s1.trans (same_new nd)) (s1.free nd) upd_same
    | some y =>
      obtain ⟨t, n⟩ := y
      rw [e] at qs qn
      dsimp only at qs qn
      obtain ⟨t200, tsg, _⟩ := rdP_ok ok.ok h16 (fun c hc => by cases hc) e
      dsimp only at t200 tsg
      refine ⟨rfl, _, _, rfl, _, _, rfl, rfl, k1 _ _ ?_⟩
      clear k1 h1
      refine seqI fun K1 k1 => ?_
      walk_at "rd"
      refine ⟨t, rfl, t200, tsg, fun H2 s2 => ?_⟩
      walk_at "rd"
      refine k1 _ _ ?_
      clear k1
      refine seqI fun K1 k1 => ?_
      walk_at "rd"
      refine ⟨⟨by decide, by decide⟩, k1 _ _ ?_⟩
      clear k1
      rw [show ((st : Int) + ((n : Int) + 1) / 2) = ((st + (n + 1) / 2 : Nat) : Int) by omega]
      have s12 := s1.trans s2
      refine seqI fun K1 k1 => ?_
      refine ifI fun A B ka kb => ?_
      walk_at "rd"
      have eh := half_16 ok tsg
      refine ⟨dx, _, s12 _ _ hx, rfl, x, t, ws, rfl, hL.same s12, by omega, fun p3 H3 s3 n3 h3 => ⟨p3, half ws t, rfl, h3, ?_, fun p4 H4 s4 n4 h4 => ?_⟩⟩
      · have := half_len ws t
        omega
      have s4' := s12.trans (s3.trans s4)
      refine ⟨_, hp.same s4', fun p5 H5 s5 h5 => ⟨_, h5, fun p6 H6 s6 h6 => ⟨p4, rfl, _, s6 _ _ (s5 _ _ h4), _, h6, ?_, ?_, ?_⟩⟩⟩
      · rw [List.all_map]
        exact List.all_eq_true.mpr fun _ _ => rfl
      · rw [cutV_two, mi_drop, mi_take, List.all_map]
        exact List.all_eq_true.mpr fun _ _ => rfl
      have s6' := s4'.trans (s5.trans s6)
      have e6 : cutV (mi l) (some (st : Int)) (some ((st + (n + 1) / 2 : Nat) : Int)) = mi ((l.drop st).take ((n + 1) / 2)) := by
        rw [cutV_two, mi_drop, mi_take, Nat.add_sub_cancel_left]
      rw [e6]
      refine ite_i (fun h7 => kb _ ?_) (fun h7 => ka _ ?_)
      · have h8 : by2 (half ws t) = (l.drop st).take ((n + 1) / 2) := List.map_inj_right (fun a b e => V.int.inj e) |>.mp h7
        rw [if_pos h8] at qs qn
        walk_at "rd"
        refine k1 _ _ ?_
        walk_at "rd"
        exact ⟨by decide, fun q1 nq => qs t _ rfl q1 _ (s6'.trans (same_new nq)) (s6'.free nq) upd_same⟩
      · have h8 : ¬ by2 (half ws t) = (l.drop st).take ((n + 1) / 2) := fun k => h7 (by rw [k])
        rw [if_neg h8] at qs qn
        walk_at "rd"
        exact fun d nd => qn rfl d _ (s6'.trans (same_new nd)) (s6'.free nd) upd_same
end
section
variable {P : Program} {w : World} {K : PySem.W.Frag} {mg : Str → Option Value} {base : Heap}
theorem ok__law_bag (S : Src K mg "_law_bag" s__law_bag) (T : Tx P K mg)   : Cal P w K mg base CX0 1 "_law_bag" ["_law_script"] (spBag K) := by
  refine S.cal sc__law_bag bn__law_bag (fun vs H Q E h => ?_) (fun f cdv A outer s H vs Q E hr h => ?_)
  · first | (obtain ⟨rfl, _⟩ := h; rfl) | (obtain ⟨_, rfl, _⟩ := h; rfl) | (obtain ⟨_, _, rfl, _⟩ := h; rfl) | (obtain ⟨_, _, _, rfl, _⟩ := h; rfl) | (obtain ⟨_, _, _, _, rfl, _⟩ := h; rfl) | (obtain ⟨_, _, _, _, _, rfl, _⟩ := h; rfl) | (obtain ⟨_, _, _, _, _, _, rfl, _⟩ := h; rfl) | (obtain ⟨_, _, _, _, _, _, _, rfl, _⟩ := h; rfl) | (obtain ⟨_, _, _, _, _, _, _, _, rfl, _⟩ := h; rfl) | (obtain ⟨_, _, _, _, _, _, _, _, _, rfl, _⟩ := h; rfl)
  · skip
    refine ⟨_, (pss_cons (ps_set (i := 1) sc__law_bag.nd rfl (Or.inl rfl) pe_int)
        (pss_cons (ps_for PassesOwn.never rfl (pi_list (pv 0)) (pg_name (i := 2) sc__law_bag.nd rfl (Or.inl rfl)) (pss_one (ps_set (i := 1) sc__law_bag.nd rfl (Or.inl rfl) (pe_op op_mod (Fx.pe_cTy Fx.int_I T.b_int (by decide +kernel) (Fx.pa_c (pe_op op_add (pe_op op_add (pe_op op_mul (pv 1) pe_int) (pv 2)) pe_int) pa_nil)) pe_int))))
        (pss_one (ps_ret (pe_disp (pps_cons pe_str (pe_lc (own := [("_law_cell", 2)]) rfl sc__law_bag.nd (pi_list (pv 0)) (blkOk_by (N := N__law_bag) (sc := defScope s__law_bag) (by decide +kernel)) (fun _ _ _ _ _ => (pg_name (i := 2) sc__law_bag.nd rfl (Or.inl rfl))) (fun _ _ _ _ _ => pts_nil) (fun _ _ _ _ _ => (pv 2))) (pps_cons pe_str pe_int (pps_cons pe_str pe_int (pps_cons pe_str (pv 1) (pps_cons pe_str pe_int pps_nil))))) (by rfl) (by rfl) (fun z => by cases z) (by decide)))))), ?_⟩
    obtain ⟨a, ns, rfl, hS, hlen, q⟩ := h
    refine seqI fun K1 k1 => ?_
    walk_at "rd"
    refine k1 _ _ ?_
    refine seqI fun K2 k2 => ?_
    refine ⟨_, rfl, a, rfl, ⟨_, hS⟩, for_list (K := K) (a := a) (xs := ns.map V.int) (fun i σ H' => ∃ (m : Int) (v : Option V), σ = [some (.ref a), some (.int m), v] ∧ H' = H) ⟨7, none, rfl, rfl⟩ (fun i σ H' _ ⟨_, _, _, e⟩ => by rw [e]; exact hS) ?_ ?_⟩
    · rintro i y σ H' hi ⟨m, v, rfl, rfl⟩
      obtain ⟨z, rfl⟩ : ∃ z, y = V.int z := by
        rw [List.getElem?_map] at hi
        cases e : ns[i]? with
        | none => rw [e] at hi; cases hi
        | some z => rw [e] at hi; exact ⟨z, (Option.some.inj hi).symm⟩
      walk_at "rd"
      exact ⟨.inr ⟨by decide, by decide⟩, by decide⟩
    · rintro σ H' ⟨m, v, rfl, rfl⟩
      refine k2 _ _ ?_
      intro p np
      refine ⟨.ref a, rfl, a, rfl, ⟨_, (same_new np).seq hS⟩, fun D hD => ?_⟩
      have hDp : D ≠ p := fun e => by rw [e, upd_same] at hD; cases hD
      refine lc_list (K := K) (a := a) (xs := ns.map V.int) (fun i H2 => H2 = upd (upd H' p (.dK [])) D (.lst ((ns.map V.int).take i))) rfl (fun i H2 _ e => ?_) ?_ ?_
      · rw [e]
        exact ((same_new np).trans (same_new hD)).seq hS
      · rintro i x H2 hx rfl
        refine ⟨rfl, ?_⟩
        walk_at "rd"
        refine ⟨?_, ?_⟩
        · rw [List.length_take]
          exact Nat.lt_of_le_of_lt (Nat.min_le_right _ _) (by rw [List.length_map]; exact Nat.lt_of_le_of_lt hlen (by decide))
        · rw [upd_upd, List.take_add_one, hx]
          rfl
      · rintro H2 rfl
        simp only [tPairs]
        walk_at "rd"
        have hpD : p ≠ D := fun e => hDp e.symm
        refine ⟨by rw [upd_ne hpD, upd_same], [(.inr "cells", .ref D), (.inr "at", .int 0), (.inr "rest", .int 0), (.inr "mixed", .int m), (.inr "count", .int 0)], rfl, (show 5 ≤ 15 by decide), ?_⟩
        refine q p _ (fun b o e => ?_) np ⟨D, ns, 0, 0, m, 0, upd_same, ?_, by decide⟩
        · rw [upd_ne (ne_of_none e np), upd_ne (ne_of_none (same_new np (o := .dK []) b o e) hD), upd_ne (ne_of_none e np)]
          exact e
        · rw [upd_ne hDp, upd_same, List.take_length]
end
section
variable {P : Program} {w : World} {K : PySem.W.Frag} {mg : Str → Option Value} {base : Heap}
theorem ok__law_pick (S : Src K mg "_law_pick" s__law_pick) (T : Tx P K mg)   : Cal P w K mg base CX0 1 "_law_pick" ["_law_bag_here", "_law_many"] spPick := by
  refine S.cal sc__law_pick bn__law_pick (fun vs H Q E h => ?_) (fun f cdv A outer s H vs Q E hr h => ?_)
  · first | (obtain ⟨rfl, _⟩ := h; rfl) | (obtain ⟨_, rfl, _⟩ := h; rfl) | (obtain ⟨_, _, rfl, _⟩ := h; rfl) | (obtain ⟨_, _, _, rfl, _⟩ := h; rfl) | (obtain ⟨_, _, _, _, rfl, _⟩ := h; rfl) | (obtain ⟨_, _, _, _, _, rfl, _⟩ := h; rfl) | (obtain ⟨_, _, _, _, _, _, rfl, _⟩ := h; rfl) | (obtain ⟨_, _, _, _, _, _, _, rfl, _⟩ := h; rfl) | (obtain ⟨_, _, _, _, _, _, _, _, rfl, _⟩ := h; rfl) | (obtain ⟨_, _, _, _, _, _, _, _, _, rfl, _⟩ := h; rfl)
  · skip
    refine ⟨_, (pss_cons (ps_dput (hu_of hr) (pv 0) pe_str (pe_op op_add (pe_dget (hu_of hr) (pv 0) pe_str (fun _ _ => rfl)) pe_int) rfl)
        (pss_cons (ps_if (pt_cmpR op_gt (pe_dget (hu_of hr) (pv 0) pe_str (fun _ _ => rfl)) pe_int (nomark _)) (pss_cons (ps_set (i := 2) sc__law_pick.nd rfl (Or.inl rfl) (pe_dget (hu_of hr) (pv 0) pe_str (fun _ _ => rfl)))
        (pss_cons (ps_dput (hu_of hr) (pv 0) pe_str (pe_op op_fdiv (pv 2) (pv 1)) rfl)
        (pss_one (ps_ret (pe_op op_mod (Fx.pe_cTy Fx.int_I T.b_int (by decide +kernel) (Fx.pa_c (pv 2) pa_nil)) (pv 1)))))) pss_nil)
        (pss_cons (ps_set (i := 3) sc__law_pick.nd rfl (Or.inl rfl) pe_int)
        (pss_cons (ps_if (pt_cmpR op_lt (pe_dget (hu_of hr) (pv 0) pe_str (fun _ _ => rfl)) (Fx.pe_cB Fx.len_L T.b_len (by decide +kernel) (Fx.pa_c (pe_dget (hu_of hr) (pv 0) pe_str (fun _ _ => rfl)) pa_nil)) (nomark _)) (pss_cons (ps_set (i := 3) sc__law_pick.nd rfl (Or.inl rfl) (pe_ix Fx.ix_L (pe_dget (hu_of hr) (pv 0) pe_str (fun _ _ => rfl)) (pe_dget (hu_of hr) (pv 0) pe_str (fun _ _ => rfl)) (fun _ _ => rfl)))
        (pss_cons (ps_dput (hu_of hr) (pv 0) pe_str (pe_op op_add (pe_dget (hu_of hr) (pv 0) pe_str (fun _ _ => rfl)) pe_int) rfl)
        (pss_one (ps_if (pt_cmpR op_ge (pv 3) (pe_op op_pow pe_int pe_int) (nomark _)) (pss_cons (ps_dput (hu_of hr) (pv 0) pe_str (pe_op op_fdiv (pv 3) (pv 1)) rfl)
        (pss_one (ps_ret (pe_op op_mod (Fx.pe_cTy Fx.int_I T.b_int (by decide +kernel) (Fx.pa_c (pv 3) pa_nil)) (pv 1))))) pss_nil)))) pss_nil)
        (pss_cons (ps_set (i := 2) sc__law_pick.nd rfl (Or.inl rfl) (pe_op op_mod (Fx.pe_cTy Fx.int_I T.b_int (by decide +kernel) (Fx.pa_c (pe_op op_add (pe_op op_add (pe_op op_mul (pv 3) pe_int) (pe_op op_mul (pe_dget (hu_of hr) (pv 0) pe_str (fun _ _ => rfl)) pe_int)) (pe_op op_mul (pe_dget (hu_of hr) (pv 0) pe_str (fun _ _ => rfl)) pe_int)) pa_nil)) pe_int))
        (pss_cons (ps_set (i := 2) sc__law_pick.nd rfl (Or.inl rfl) (pe_op op_mod (Fx.pe_cTy Fx.int_I T.b_int (by decide +kernel) (Fx.pa_c (pe_op op_add (pe_op op_mul (pv 2) pe_int) pe_int) pa_nil)) pe_int))
        (pss_cons (ps_dput (hu_of hr) (pv 0) pe_str (pe_op op_mod (Fx.pe_cTy Fx.int_I T.b_int (by decide +kernel) (Fx.pa_c (pv 2) pa_nil)) pe_int) rfl)
        (pss_one (ps_ret (pe_op op_mod (Fx.pe_cTy Fx.int_I T.b_int (by decide +kernel) (Fx.pa_c (pe_op op_fdiv (pv 2) pe_int) pa_nil)) (pv 1))))))))))), ?_⟩
    obtain ⟨b, many, rfl, ⟨c, ns, a, r, m, n, hb, hc, ha⟩, h0, h1, q⟩ := h
    have hcb : c ≠ b := ne_of hc hb (by intro z; cases z)
    have hu : ∀ o, upd H b o c = some (.lst (ns.map V.int)) := fun o => by rw [upd_ne hcb]; exact hc
    walk_at "rd"
    simp only [dget_s hb, dput_s hb bag_len, dget_su, dput_su bag_len, bag_cells, bag_at, bag_rest, bag_mixed, bag_count, bag_atP, bag_restP, bag_mixedP, bag_countP, Option.some.injEq, exists_eq_left, exists_eq_left', V.int.injEq, V.ref.injEq, HO.lst.injEq, hu]
    have fin : ∀ (x y z u : Int) (n : Int), 0 ≤ n → n < many → 0 ≤ x → Q (.int n) (upd H b (.dK (bagKV c x y z u))) := fun x y z u n g1 g2 g3 =>
      q n _ g1 g2 ⟨fun p o hp e => by rw [upd_ne hp]; exact e, ⟨c, ns, x, y, z, u, upd_same, hu _, g3⟩, fun c' ⟨ns', x', y', z', u', e1, e2, e3⟩ => by
        rw [hb] at e1
        have ec : c = c' := by
          simp only [Option.some.injEq, HO.dK.injEq, bagKV, List.cons.injEq, Prod.mk.injEq, V.ref.injEq, true_and] at e1
          exact e1.1
        subst ec
        exact ⟨ns, x, y, z, u, upd_same, hu _, g3⟩⟩
    have mm : ∀ x : Int, 0 ≤ x % many ∧ x % many < many := fun x => ⟨Int.emod_nonneg _ (by omega), Int.emod_lt_of_pos _ h0⟩
    refine ite_i (fun hr => ⟨⟨h0, h1⟩, h0, fin _ _ _ _ _ (mm _).1 (mm _).2 ha⟩) (fun hr => ?_)
    refine ite_i (fun hl => ?_) (fun hl => ?_)
    · obtain ⟨x, ex⟩ := atI_ok ha hl
      refine ⟨.int x, ex, ?_⟩
      simp only [V.int.injEq, exists_eq_left', exists_eq_left]
      refine ⟨⟨by decide, by decide, by decide⟩, ite_i (fun hx => ⟨⟨h0, h1⟩, h0, fin _ _ _ _ _ (mm _).1 (mm _).2 (by omega)⟩) (fun hx => ?_)⟩
      exact ⟨.inr ⟨by decide, by decide⟩, .inr ⟨by decide, by decide⟩, .inr ⟨by decide, by decide⟩, by decide, .inr ⟨by decide, by decide⟩, by decide, by decide, ⟨by decide, by decide⟩, h0, fin _ _ _ _ _ (mm _).1 (mm _).2 (by omega)⟩
    · exact ⟨.inr ⟨by decide, by decide⟩, .inr ⟨by decide, by decide⟩, .inr ⟨by decide, by decide⟩, by decide, .inr ⟨by decide, by decide⟩, by decide, by decide, ⟨by decide, by decide⟩, h0, fin _ _ _ _ _ (mm _).1 (mm _).2 ha⟩
end
section
variable {P : Program} {w : World} {K : PySem.W.Frag} {mg : Str → Option Value} {base : Heap}
theorem ok__law_choice (S : Src K mg "_law_choice" s__law_choice) (T : Tx P K mg) (C__law_pick : Cal P w K mg base CX0 1 "_law_pick" ["_law_bag_here", "_law_many"] spPick)  : Cal P w K mg base CX0 2 "_law_choice" ["_law_bag_here", "_law_things"] spChoiceS := by
  refine S.cal sc__law_choice bn__law_choice (fun vs H Q E h => ?_) (fun f cdv A outer s H vs Q E hr h => ?_)
  · first | (obtain ⟨rfl, _⟩ := h; rfl) | (obtain ⟨_, rfl, _⟩ := h; rfl) | (obtain ⟨_, _, rfl, _⟩ := h; rfl) | (obtain ⟨_, _, _, rfl, _⟩ := h; rfl) | (obtain ⟨_, _, _, _, rfl, _⟩ := h; rfl) | (obtain ⟨_, _, _, _, _, rfl, _⟩ := h; rfl) | (obtain ⟨_, _, _, _, _, _, rfl, _⟩ := h; rfl) | (obtain ⟨_, _, _, _, _, _, _, rfl, _⟩ := h; rfl) | (obtain ⟨_, _, _, _, _, _, _, _, rfl, _⟩ := h; rfl) | (obtain ⟨_, _, _, _, _, _, _, _, _, rfl, _⟩ := h; rfl)
  · skip
    refine ⟨_, (pss_one (ps_ret (pe_ix Fx.ix_S (pv 1) (Fx.pe_cal C__law_pick (hr.mono (by decide)) pass0 (Fx.pa_c (pv 0) (Fx.pa_c (Fx.pe_cB Fx.len_S T.b_len (by decide +kernel) (Fx.pa_c (pv 1) pa_nil)) pa_nil))) (fun _ _ => rfl)))), ?_⟩
    obtain ⟨b, z, rfl, hB, h0, h1, q⟩ := h
    walk_at "rd"
    refine ⟨sz h1, b, _, rfl, hB, by omega, by omega, fun n H' g1 g2 k => ?_⟩
    obtain ⟨c, hc, hm⟩ := atI_mem (xs := z.cps.toList) g1 (by rw [Array.length_toList]; exact g2)
    walk_at "rd"
    exact ⟨sz h1, c, hc, q c H' hm k⟩
end
section
variable {P : Program} {w : World} {K : PySem.W.Frag} {mg : Str → Option Value} {base : Heap}
theorem ok__law_integer (S : Src K mg "_law_integer" s__law_integer) (T : Tx P K mg)   : Cal P w K mg base CX0 1 "_law_integer" ["_law_thing"] spInteger := by
  refine S.cal sc__law_integer bn__law_integer (fun vs H Q E h => ?_) (fun f cdv A outer s H vs Q E hr h => ?_)
  · first | (obtain ⟨rfl, _⟩ := h; rfl) | (obtain ⟨_, rfl, _⟩ := h; rfl) | (obtain ⟨_, _, rfl, _⟩ := h; rfl) | (obtain ⟨_, _, _, rfl, _⟩ := h; rfl) | (obtain ⟨_, _, _, _, rfl, _⟩ := h; rfl) | (obtain ⟨_, _, _, _, _, rfl, _⟩ := h; rfl) | (obtain ⟨_, _, _, _, _, _, rfl, _⟩ := h; rfl) | (obtain ⟨_, _, _, _, _, _, _, rfl, _⟩ := h; rfl) | (obtain ⟨_, _, _, _, _, _, _, _, rfl, _⟩ := h; rfl) | (obtain ⟨_, _, _, _, _, _, _, _, _, rfl, _⟩ := h; rfl)
  · skip
    refine ⟨_, (pss_one (ps_ret (pe_and (Fx.pe_cB Fx.is_B T.b_isinstance (by decide +kernel) (Fx.pa_c (pv 0) (Fx.pa_c (pe_bltn (v := .ty "int") (by rfl) T.b_int (by decide +kernel) rfl) pa_nil))) (pe_one (pe_not (Fx.pe_cB Fx.is_B T.b_isinstance (by decide +kernel) (Fx.pa_c (pv 0) (Fx.pa_c (pe_bltn (v := .ty "bool") (by rfl) T.b_bool (by decide +kernel) rfl) pa_nil)))))))), ?_⟩
    obtain ⟨i, rfl, q⟩ := h
    walk_at "rd"
    exact q
end
section
variable {P : Program} {w : World} {K : PySem.W.Frag} {mg : Str → Option Value} {base : Heap}
theorem ok__law_signs (S : Src K mg "_law_signs" s__law_signs) (T : Tx P K mg)   : Cal P w K mg base CX0 1 "_law_signs" [] spSigns := by
  refine S.cal sc__law_signs bn__law_signs (fun vs H Q E h => ?_) (fun f cdv A outer s H vs Q E hr h => ?_)
  · first | (obtain ⟨rfl, _⟩ := h; rfl) | (obtain ⟨_, rfl, _⟩ := h; rfl) | (obtain ⟨_, _, rfl, _⟩ := h; rfl) | (obtain ⟨_, _, _, rfl, _⟩ := h; rfl) | (obtain ⟨_, _, _, _, rfl, _⟩ := h; rfl) | (obtain ⟨_, _, _, _, _, rfl, _⟩ := h; rfl) | (obtain ⟨_, _, _, _, _, _, rfl, _⟩ := h; rfl) | (obtain ⟨_, _, _, _, _, _, _, rfl, _⟩ := h; rfl) | (obtain ⟨_, _, _, _, _, _, _, _, rfl, _⟩ := h; rfl) | (obtain ⟨_, _, _, _, _, _, _, _, _, rfl, _⟩ := h; rfl)
  · skip
    refine ⟨_, (pss_one (ps_ret pe_str)), ?_⟩
    obtain ⟨rfl, q⟩ := h
    walk_at "rd"
    exact q
end
section
variable {P : Program} {w : World} {K : PySem.W.Frag} {mg : Str → Option Value} {base : Heap}
theorem ok__law_codes (S : Src K mg "_law_codes" s__law_codes) (T : Tx P K mg)   : Cal P w K mg base CX0 1 "_law_codes" ["_law_sign_here"] spLCodes := by
  refine S.cal sc__law_codes bn__law_codes (fun vs H Q E h => ?_) (fun f cdv A outer s H vs Q E hr h => ?_)
  · first | (obtain ⟨rfl, _⟩ := h; rfl) | (obtain ⟨_, rfl, _⟩ := h; rfl) | (obtain ⟨_, _, rfl, _⟩ := h; rfl) | (obtain ⟨_, _, _, rfl, _⟩ := h; rfl) | (obtain ⟨_, _, _, _, rfl, _⟩ := h; rfl) | (obtain ⟨_, _, _, _, _, rfl, _⟩ := h; rfl) | (obtain ⟨_, _, _, _, _, _, rfl, _⟩ := h; rfl) | (obtain ⟨_, _, _, _, _, _, _, rfl, _⟩ := h; rfl) | (obtain ⟨_, _, _, _, _, _, _, _, rfl, _⟩ := h; rfl) | (obtain ⟨_, _, _, _, _, _, _, _, _, rfl, _⟩ := h; rfl)
  · skip
    refine ⟨_, (pss_cons (ps_set (i := 1) sc__law_codes.nd rfl (Or.inl rfl) (pe_lst (Fx.pa_c pe_str (Fx.pa_c pe_str (Fx.pa_c pe_str pa_nil)))))
        (pss_cons (ps_for PassesOwn.never rfl (pi_range1 rfl T.b_range (Fx.pa_c pe_int pa_nil)) (pg_name (i := 2) sc__law_codes.nd rfl (Or.inl rfl)) (pss_cons (ps_set (i := 3) sc__law_codes.nd rfl (Or.inl rfl) (pe_m1 PySem.F.slot_str_find PySem.F.type_str_find mt_find (pe_ix Fx.ix_L (pv 1) (pv 2) (fun _ _ => rfl)) (pv 0)))
        (pss_one (ps_if (pt_cmpR op_ge (pv 3) pe_int (nomark _)) (pss_one (ps_ret (pe_ix Fx.ix_L (pe_lst (Fx.pa_c (pe_lst (Fx.pa_c (pv 3) pa_nil)) (Fx.pa_c (pe_lst (Fx.pa_c pe_int (Fx.pa_c (pv 3) pa_nil))) (Fx.pa_c (pe_lst (Fx.pa_c pe_int (Fx.pa_c (pv 3) pa_nil))) pa_nil)))) (pv 2) (fun _ _ => rfl)))) pss_nil))))
        (pss_one (ps_ret (pe_lst (Fx.pa_c pe_int (Fx.pa_c (pe_op op_fdiv (Fx.pe_cB Fx.ord_S T.b_ord (by decide +kernel) (Fx.pa_c (pv 0) pa_nil)) pe_int) (Fx.pa_c (pe_op op_mod (Fx.pe_cTy Fx.int_I T.b_int (by decide +kernel) (Fx.pa_c (Fx.pe_cB Fx.ord_S T.b_ord (by decide +kernel) (Fx.pa_c (pv 0) pa_nil)) pa_nil)) pe_int) pa_nil)))))))), ?_⟩
    obtain ⟨c, rfl, q⟩ := h
    refine seqI fun K1 k1 => ?_
    walk_at "rd"
    refine ⟨by decide, fun p np => k1 _ _ ?_⟩
    refine seqI fun K2 k2 => ?_
    refine ⟨3, rfl, by decide, by decide, for_range (lo := 0) (n := 3) (fun i σ H' => ∃ v2 v3, σ = [some (.str (S1 c)), some (.ref p), v2, v3] ∧ H' = upd H p (.lst [.str rowA, .str rowB, .str rowC]) ∧ (1 ≤ i → ¬ 0 ≤ Txt.find rowA (S1 c)) ∧ (2 ≤ i → ¬ 0 ≤ Txt.find rowB (S1 c)) ∧ (3 ≤ i → ¬ 0 ≤ Txt.find rowC (S1 c))) ⟨none, none, rfl, rfl, by omega, by omega, by omega⟩ ?_ ?_⟩
    · rintro i σ H' hi ⟨v2, v3, rfl, rfl, g1, g2, g3⟩
      have fin : ∀ (r : V) (p1 p2 p3 p4 : Addr) (x1 x2 x3 x4 : List V), (upd H p (.lst [.str rowA, .str rowB, .str rowC])) p1 = none → (upd (upd H p (.lst [.str rowA, .str rowB, .str rowC])) p1 (.lst x1)) p2 = none →
          (upd (upd (upd H p (.lst [.str rowA, .str rowB, .str rowC])) p1 (.lst x1)) p2 (.lst x2)) p3 = none → (upd (upd (upd (upd H p (.lst [.str rowA, .str rowB, .str rowC])) p1 (.lst x1)) p2 (.lst x2)) p3 (.lst x3)) p4 = none →
          ((r = .ref p1 ∧ x1 = (codeL c).map V.int) ∨ (r = .ref p2 ∧ x2 = (codeL c).map V.int) ∨ (r = .ref p3 ∧ x3 = (codeL c).map V.int)) → Q r (upd (upd (upd (upd (upd H p (.lst [.str rowA, .str rowB, .str rowC])) p1 (.lst x1)) p2 (.lst x2)) p3 (.lst x3)) p4 (.lst x4)) := by
        intro r p1 p2 p3 p4 x1 x2 x3 x4 n1 n2 n3 n4 hr
        have s0 : Same H (upd H p (.lst [.str rowA, .str rowB, .str rowC])) := same_new np
        have s1 := same_new (o := .lst x1) n1
        have s2 := same_new (o := .lst x2) n2
        have s3 := same_new (o := .lst x3) n3
        have s4 := same_new (o := .lst x4) n4
        rcases hr with ⟨rfl, e⟩ | ⟨rfl, e⟩ | ⟨rfl, e⟩
        · exact q p1 _ (s0.trans (s1.trans (s2.trans (s3.trans s4)))) (s0.free n1) (by rw [← e]; exact s4 _ _ (s3 _ _ (s2 _ _ upd_same)))
        · exact q p2 _ (s0.trans (s1.trans (s2.trans (s3.trans s4)))) (s0.free (s1.free n2)) (by rw [← e]; exact s4 _ _ (s3 _ _ upd_same))
        · exact q p3 _ (s0.trans (s1.trans (s2.trans (s3.trans s4)))) (s0.free (s1.free (s2.free n3))) (by rw [← e]; exact s4 _ _ upd_same)
      rcases (by omega : i = 0 ∨ i = 1 ∨ i = 2) with rfl | rfl | rfl
      · walk_at "rd"
        refine ⟨.str rowA, rfl, ?_⟩
        walk_at "rd"
        refine ite_i (fun h1 => ⟨by decide, fun p1 n1 => ⟨by decide, fun p2 n2 => ⟨by decide, fun p3 n3 => ⟨by decide, fun p4 n4 => ⟨_, rfl, fin _ _ _ _ _ _ _ _ _ n1 n2 n3 n4 (.inl ⟨rfl, ?_⟩)⟩⟩⟩⟩⟩) (fun h1 => ⟨fun _ => h1, by omega, by omega⟩)
        unfold codeL
        rw [if_pos h1]
        rfl
      · walk_at "rd"
        refine ⟨.str rowB, rfl, ?_⟩
        walk_at "rd"
        refine ite_i (fun h2 => ⟨by decide, fun p1 n1 => ⟨by decide, fun p2 n2 => ⟨by decide, fun p3 n3 => ⟨by decide, fun p4 n4 => ⟨_, rfl, fin _ _ _ _ _ _ _ _ _ n1 n2 n3 n4 (.inr (.inl ⟨rfl, ?_⟩))⟩⟩⟩⟩⟩) (fun h2 => ⟨fun _ => g1 (by omega), fun _ => h2, by omega⟩)
        unfold codeL
        rw [if_neg (g1 (by omega)), if_pos h2]
        rfl
      · walk_at "rd"
        refine ⟨.str rowC, rfl, ?_⟩
        walk_at "rd"
        refine ite_i (fun h3 => ⟨by decide, fun p1 n1 => ⟨by decide, fun p2 n2 => ⟨by decide, fun p3 n3 => ⟨by decide, fun p4 n4 => ⟨_, rfl, fin _ _ _ _ _ _ _ _ _ n1 n2 n3 n4 (.inr (.inr ⟨rfl, ?_⟩))⟩⟩⟩⟩⟩) (fun h3 => ⟨fun _ => g1 (by omega), fun _ => g2 (by omega), fun _ => h3⟩)
        unfold codeL
        rw [if_neg (g1 (by omega)), if_neg (g2 (by omega)), if_pos h3]
        rfl
    · rintro σ H' ⟨v2, v3, rfl, rfl, g1, g2, g3⟩
      refine k2 _ _ ?_
      walk_at "rd"
      refine ⟨rfl, ⟨by decide, by decide⟩, rfl, by decide, by decide, fun l nl => q l _ ((same_new np).trans (same_new nl)) ((same_new np (o := .lst [.str rowA, .str rowB, .str rowC])).free nl) ?_⟩
      rw [upd_same]
      unfold codeL
      rw [if_neg (g1 (by omega)), if_neg (g2 (by omega)), if_neg (g3 (by omega))]
      rfl
end
section
variable {P : Program} {w : World} {K : PySem.W.Frag} {mg : Str → Option Value} {base : Heap}
theorem ok__law_sign (S : Src K mg "_law_sign" s__law_sign) (T : Tx P K mg) (C__law_signs : Cal P w K mg base CX0 1 "_law_signs" [] spSigns) (C__law_choice : Cal P w K mg base CX0 2 "_law_choice" ["_law_bag_here", "_law_things"] spChoiceS)  : Cal P w K mg base CX0 3 "_law_sign" ["_law_bag_here"] spSign := by
  refine S.cal sc__law_sign bn__law_sign (fun vs H Q E h => ?_) (fun f cdv A outer s H vs Q E hr h => ?_)
  · first | (obtain ⟨rfl, _⟩ := h; rfl) | (obtain ⟨_, rfl, _⟩ := h; rfl) | (obtain ⟨_, _, rfl, _⟩ := h; rfl) | (obtain ⟨_, _, _, rfl, _⟩ := h; rfl) | (obtain ⟨_, _, _, _, rfl, _⟩ := h; rfl) | (obtain ⟨_, _, _, _, _, rfl, _⟩ := h; rfl) | (obtain ⟨_, _, _, _, _, _, rfl, _⟩ := h; rfl) | (obtain ⟨_, _, _, _, _, _, _, rfl, _⟩ := h; rfl) | (obtain ⟨_, _, _, _, _, _, _, _, rfl, _⟩ := h; rfl) | (obtain ⟨_, _, _, _, _, _, _, _, _, rfl, _⟩ := h; rfl)
  · skip
    refine ⟨_, (pss_one (ps_ret (Fx.pe_cal C__law_choice (hr.mono (by decide)) pass0 (Fx.pa_c (pv 0) (Fx.pa_c (Fx.pe_cal0 C__law_signs (hr.mono (by decide)) pass0) pa_nil))))), ?_⟩
    obtain ⟨b, rfl, hB, q⟩ := h
    walk_at "rd"
    exact ⟨rfl, b, signs2, rfl, hB, by decide, by decide, fun c H' hc k => q c H' hc k⟩
end
section
variable {P : Program} {w : World} {K : PySem.W.Frag} {mg : Str → Option Value} {base : Heap}
theorem ok__law_word (S : Src K mg "_law_word" s__law_word) (T : Tx P K mg) (C__law_pick : Cal P w K mg base CX0 1 "_law_pick" ["_law_bag_here", "_law_many"] spPick)  : Cal P w K mg base CX0 2 "_law_word" ["_law_bag_here"] spWordB := by
  refine S.cal sc__law_word bn__law_word (fun vs H Q E h => ?_) (fun f cdv A outer s H vs Q E hr h => ?_)
  · first | (obtain ⟨rfl, _⟩ := h; rfl) | (obtain ⟨_, rfl, _⟩ := h; rfl) | (obtain ⟨_, _, rfl, _⟩ := h; rfl) | (obtain ⟨_, _, _, rfl, _⟩ := h; rfl) | (obtain ⟨_, _, _, _, rfl, _⟩ := h; rfl) | (obtain ⟨_, _, _, _, _, rfl, _⟩ := h; rfl) | (obtain ⟨_, _, _, _, _, _, rfl, _⟩ := h; rfl) | (obtain ⟨_, _, _, _, _, _, _, rfl, _⟩ := h; rfl) | (obtain ⟨_, _, _, _, _, _, _, _, rfl, _⟩ := h; rfl) | (obtain ⟨_, _, _, _, _, _, _, _, _, rfl, _⟩ := h; rfl)
  · skip
    refine ⟨_, (pss_cons (ps_set (i := 1) sc__law_word.nd rfl (Or.inr rfl) pe_str)
        (pss_cons (ps_set (i := 2) sc__law_word.nd rfl (Or.inl rfl) (Fx.pe_cal C__law_pick (hr.mono (by decide)) pass0 (Fx.pa_c (pv 0) (Fx.pa_c pe_int pa_nil))))
        (pss_cons (ps_set (i := 1) sc__law_word.nd rfl (Or.inr rfl) (pe_slice sl_str (pe_op op_add_str (pv 1) (pv 1)) (po_some (pv 2)) (po_some (pe_op op_add (pe_op op_add (pv 2) pe_int) (Fx.pe_cal C__law_pick (hr.mono (by decide)) pass0 (Fx.pa_c (pv 0) (Fx.pa_c pe_int pa_nil)))))))
        (pss_cons (ps_set (i := 3) sc__law_word.nd rfl (Or.inl rfl) (pe_op op_add pe_int (Fx.pe_cal C__law_pick (hr.mono (by decide)) pass0 (Fx.pa_c (pv 0) (Fx.pa_c (pe_ix Fx.ix_L (pe_lst (Fx.pa_c pe_int (Fx.pa_c pe_int pa_nil))) (Fx.pe_cal C__law_pick (hr.mono (by decide)) pass0 (Fx.pa_c (pv 0) (Fx.pa_c pe_int pa_nil))) (fun _ _ => rfl)) pa_nil)))))
        (pss_one (ps_ret (pe_m1 PySem.F.slot_str_join PySem.F.type_str_join Fx.mt_jn pe_str (pe_lc (own := [("_law_step", 4)]) rfl sc__law_word.nd (pi_range1 rfl T.b_range (Fx.pa_c (pv 3) pa_nil)) (blkOk_by (N := N__law_word) (sc := defScope s__law_word) (by decide +kernel)) (fun _ _ _ _ _ => (pg_name (i := 4) sc__law_word.nd rfl (Or.inl rfl))) (fun _ _ _ _ _ => pts_nil) (fun _ _ _ _ _ => (pe_ix Fx.ix_S (pv 1) (Fx.pe_cal C__law_pick (hr.mono (by decide)) pass0 (Fx.pa_c (pv 0) (Fx.pa_c (Fx.pe_cB Fx.len_S T.b_len (by decide +kernel) (Fx.pa_c (pv 1) pa_nil)) pa_nil))) (fun _ _ => rfl))))))))))), ?_⟩
    obtain ⟨b, rfl, hB, q⟩ := h
    refine seqI fun K1 k1 => ?_
    walk_at "rd"
    refine k1 _ _ ?_
    clear k1
    refine seqI fun K1 k1 => ?_
    walk_at "rd"
    refine ⟨b, 26, rfl, hB, by decide, by decide, fun at_ H1 a0 a1 kp1 => k1 _ _ ?_⟩
    clear k1
    refine seqI fun K1 k1 => ?_
    walk_at "rd"
    refine ⟨by decide, b, 26, rfl, kp1.bag, by decide, by decide, fun x H2 x0 x1 kp2 => ⟨x, rfl, by decide, k1 _ _ ?_⟩⟩
    clear k1
    have tw := twice_cut (L := "etaonisrhldcumfpgwybvkxjqz") a0 (show at_ < 26 from a1) x0 (show x < 26 from x1)
    have el : ∀ c ∈ (("etaonisrhldcumfpgwybvkxjqz" : Str)).cps.toList, c ∈ letS.cps.toList := by decide +kernel
    generalize cutS (Str.ofString "etaonisrhldcumfpgwybvkxjqz" ++ Str.ofString "etaonisrhldcumfpgwybvkxjqz") (some at_) (some (at_ + 1 + x)) = sg at tw
    obtain ⟨g1, g2, g3⟩ := tw
    replace g2 : sg.length ≤ 52 := g2
    replace kp1 := kp1.trans kp2
    clear kp2
    refine seqI fun K1 k1 => ?_
    walk_at "rd"
    refine ⟨by decide, ?_⟩
    have B1 := kp1.bag
    intro p1 n1
    generalize e_p1 : upd H2 p1 _ = H3
    have s3 := new_s n1 e_p1
    have h3 := new_h e_p1
    clear e_p1
    try (first | replace B1 := s3 _ _ B1 | replace B1 := B1.same s3 | replace B1 := B1.then s3 | replace B1 := B1.trans s3)
    try (first | replace kp1 := s3 _ _ kp1 | replace kp1 := kp1.same s3 | replace kp1 := kp1.then s3 | replace kp1 := kp1.trans s3)
    refine ⟨b, 2, rfl, B1, by decide, by decide, fun w H4 w0 w1 kp4 => ?_⟩
    obtain ⟨y, y0, y1, ey⟩ : ∃ y : Int, 0 < y ∧ y ≤ 18 ∧ atI [V.int 3, V.int 18] w = some (.int y) := by
      rcases (by omega : w = 0 ∨ w = 1) with rfl | rfl
      · exact ⟨3, by decide, by decide, rfl⟩
      · exact ⟨18, by decide, by decide, rfl⟩
    try (first | replace kp1 := Kp.lst kp4 B1 kp1 | replace kp1 := Kp.tup kp4 B1 kp1 | replace kp1 := Kp.ins kp4 B1 kp1 | replace kp1 := kp1.kp B1 kp4 | replace kp1 := Kp.trans kp1 kp4)
    try (first | replace h3 := Kp.lst kp4 B1 h3 | replace h3 := Kp.tup kp4 B1 h3 | replace h3 := Kp.ins kp4 B1 h3 | replace h3 := h3.kp B1 kp4 | replace h3 := Kp.trans h3 kp4)
    replace B1 := Kp.bag kp4
    refine ⟨w, rfl, _, h3, _, ey, b, y, rfl, B1, y0, by omega, fun m H5 m0 m1 kp5 => ⟨m, rfl, k1 _ _ ?_⟩⟩
    try (first | replace kp1 := Kp.lst kp5 B1 kp1 | replace kp1 := Kp.tup kp5 B1 kp1 | replace kp1 := Kp.ins kp5 B1 kp1 | replace kp1 := kp1.kp B1 kp5 | replace kp1 := Kp.trans kp1 kp5)
    try (first | replace h3 := Kp.lst kp5 B1 h3 | replace h3 := Kp.tup kp5 B1 h3 | replace h3 := Kp.ins kp5 B1 h3 | replace h3 := h3.kp B1 kp5 | replace h3 := Kp.trans h3 kp5)
    replace B1 := Kp.bag kp5
    clear k1 h3 ey w0 w1
    walk_at "rd"
    refine ⟨_, rfl, 3 + m, rfl, by omega, by omega, fun D nD => ?_⟩
    refine lc_range (lo := 0) (n := (3 + m).toNat) (fun i H6 => ∃ cs : List Nat, cs.length = i ∧ (∀ c ∈ cs, c ∈ letS.cps.toList) ∧ H6 D = some (.lst ((cs.map S1).map V.str)) ∧ Kp b H5 H6) ⟨[], rfl, fun c h => by (cases h), upd_same, Kp.put B1 (Kp.refl B1) nD⟩ ?_ ?_
    · rintro i H6 hi ⟨cs, hcs, hall, hD, kp6⟩
      refine ⟨rfl, ?_⟩
      walk_at "rd"
      refine ⟨sz (by omega), b, _, rfl, kp6.bag, by omega, by omega, fun r H7 r0 r1 kp7 => ?_⟩
      obtain ⟨c, hc, hm⟩ := atI_mem (xs := sg.cps.toList) r0 (by rw [Array.length_toList]; exact r1)
      walk_at "rd"
      refine ⟨sz (by omega), c, hc, _, kp7.lst kp6.bag hD, ?_, cs ++ [c], ?_, ?_, ?_, Kp.put B1 (kp6.trans kp7) nD⟩
      · rw [List.length_map, List.length_map]
        exact Nat.lt_of_lt_of_le (by omega : _ < 100) (by decide)
      · rw [List.length_append, hcs]
        rfl
      · intro x hx
        rcases List.mem_append.mp hx with hx | hx
        · exact hall x hx
        · rw [List.mem_singleton.mp hx]
          exact el c (g3 c hm)
      · rw [List.map_append, List.map_append]
        rfl
    rintro H6 ⟨cs, hcs, hall, hD, kp6⟩
    refine ⟨D, rfl, cs.map S1, hD, join_fits (by omega), q _ _ ?_ (kp1.trans kp6)⟩
    refine isSW_of ?_ ?_ fun c hc => hall c (by rw [join_S1] at hc; exact hc)
    · rw [join_len]
      omega
    · rw [join_len]
      omega
end
section
variable {P : Program} {w : World} {K : PySem.W.Frag} {mg : Str → Option Value} {base : Heap}
theorem ok__law_distinct (S : Src K mg "_law_distinct" s__law_distinct) (T : Tx P K mg)   : Cal P w K mg base CX0 1 "_law_distinct" ["_law_words"] spDist := by
  refine S.cal sc__law_distinct bn__law_distinct (fun vs H Q E h => ?_) (fun f cdv A outer s H vs Q E hr h => ?_)
  · first | (obtain ⟨rfl, _⟩ := h; rfl) | (obtain ⟨_, rfl, _⟩ := h; rfl) | (obtain ⟨_, _, rfl, _⟩ := h; rfl) | (obtain ⟨_, _, _, rfl, _⟩ := h; rfl) | (obtain ⟨_, _, _, _, rfl, _⟩ := h; rfl) | (obtain ⟨_, _, _, _, _, rfl, _⟩ := h; rfl) | (obtain ⟨_, _, _, _, _, _, rfl, _⟩ := h; rfl) | (obtain ⟨_, _, _, _, _, _, _, rfl, _⟩ := h; rfl) | (obtain ⟨_, _, _, _, _, _, _, _, rfl, _⟩ := h; rfl) | (obtain ⟨_, _, _, _, _, _, _, _, _, rfl, _⟩ := h; rfl)
  · skip
    refine ⟨_, (pss_cons (ps_set (i := 1) sc__law_distinct.nd rfl (Or.inl rfl) (pe_lst pa_nil))
        (pss_cons (ps_for PassesOwn.never rfl (pi_list (pv 0)) (pg_name (i := 2) sc__law_distinct.nd rfl (Or.inl rfl)) (pss_one (ps_if (pt_cmpR Fx.notIn_S (pv 2) (pv 1) rfl) (pss_one (ps_expr (pe_bm PySem.F.plainAttrs_list PySem.F.slot_list_append PySem.F.type_list_append mt_append (pv 1) (Fx.pa_c (pv 2) pa_nil)))) pss_nil)))
        (pss_one (ps_ret (Fx.pe_cB Fx.sort_S T.b_sorted (by decide +kernel) (Fx.pa_c (pv 1) pa_nil)))))), ?_⟩
    obtain ⟨p, l, rfl, hp, hl, q⟩ := h
    refine seqI fun K1 k1 => ?_
    walk_at "rd"
    refine ⟨by decide, fun pf nf => k1 _ _ ?_⟩
    clear k1
    have hpf : p ≠ pf := ne_of_none hp nf
    refine seqI fun K1 k1 => ?_
    refine ⟨_, rfl, p, rfl, ⟨_, .inl (.inl (same_new nf _ _ hp))⟩, for_list (K := K) (a := p) (xs := ms l) (fun i σ H' => ∃ (v2 : Option V) (ys : List Str), σ = [some (.ref p), some (.ref pf), v2] ∧ ys.Nodup ∧ (∀ f, f ∈ ys ↔ f ∈ l.take i) ∧ ys.length ≤ i ∧ H' = upd H pf (.lst (ms ys))) ⟨none, [], rfl, List.nodup_nil, fun f => by simp, Nat.le_refl _, rfl⟩ (fun i σ H' _ ⟨_, _, _, _, _, _, e⟩ => by rw [e]; exact .inl (.inl (same_new nf _ _ hp))) ?_ ?_⟩
    · rintro i y σ H' hy ⟨v2, ys, rfl, nd, hm, ly, rfl⟩
      clear k1
      have hi := (List.getElem?_eq_some_iff.mp hy).1
      rw [List.length_map] at hi
      rw [List.getElem?_map, List.getElem?_eq_getElem hi] at hy
      have ey : y = .str l[i] := (Option.some.inj hy).symm
      subst ey
      have tk : ∀ f, f ∈ List.take (i + 1) l ↔ f ∈ List.take i l ∨ f = l[i] := fun f => by
        rw [List.take_add_one, List.getElem?_eq_getElem hi, List.mem_append]
        simp
      walk_at "rd"
      refine ⟨ys, .inl upd_same, ite_i (fun h => ?_) (fun h => ?_)⟩
      · refine ⟨ys, nd, fun f => ?_, by omega, rfl⟩
        rw [tk f, hm f]
        constructor
        · exact .inl
        · rintro (h1 | h1)
          · exact h1
          · rw [h1]
            exact (hm _).mp h
      · refine ⟨tyL upd_same, ?_, ys ++ [l[i]], ?_, fun f => ?_, ?_, ?_⟩
        · rw [List.length_map]
          exact Nat.lt_of_lt_of_le (by omega : _ < 100000) (by decide)
        · rw [List.nodup_append]
          refine ⟨nd, by simp, fun a ha b hb => ?_⟩
          have eb : b = l[i] := by simpa using hb
          rw [eb]
          intro e
          exact h (e ▸ ha)
        · rw [tk f, List.mem_append, hm f]
          simp
        · rw [List.length_append]
          show ys.length + 1 ≤ i + 1
          omega
        · rw [upd_upd, ms, ms, List.map_append]
          rfl
    rintro σ H' ⟨v2, ys, rfl, nd, hm, ly, rfl⟩
    refine k1 _ _ ?_
    clear k1
    walk_at "rd"
    rw [List.length_map, List.take_length] at hm
    have s1 := same_new (o := .lst (ms ys)) nf
    exact ⟨ys, rfl, fun zs q1 perm so nq => q q1 zs _ (s1.trans (same_new nq)) ⟨so, perm.nodup_iff.mpr nd, fun f => perm.mem_iff.trans (hm f)⟩ (s1.free nq) upd_same⟩
end
section
variable {P : Program} {w : World} {K : PySem.W.Frag} {mg : Str → Option Value} {base : Heap}
theorem ok__law_pieces (S : Src K mg "_law_pieces" s__law_pieces) (T : Tx P K mg)   : Cal P w K mg base CX0 1 "_law_pieces" ["_law_text"] spPieces := by
  refine S.cal sc__law_pieces bn__law_pieces (fun vs H Q E h => ?_) (fun f cdv A outer s H vs Q E hr h => ?_)
  · first | (obtain ⟨rfl, _⟩ := h; rfl) | (obtain ⟨_, rfl, _⟩ := h; rfl) | (obtain ⟨_, _, rfl, _⟩ := h; rfl) | (obtain ⟨_, _, _, rfl, _⟩ := h; rfl) | (obtain ⟨_, _, _, _, rfl, _⟩ := h; rfl) | (obtain ⟨_, _, _, _, _, rfl, _⟩ := h; rfl) | (obtain ⟨_, _, _, _, _, _, rfl, _⟩ := h; rfl) | (obtain ⟨_, _, _, _, _, _, _, rfl, _⟩ := h; rfl) | (obtain ⟨_, _, _, _, _, _, _, _, rfl, _⟩ := h; rfl) | (obtain ⟨_, _, _, _, _, _, _, _, _, rfl, _⟩ := h; rfl)
  · skip
    refine ⟨_, (pss_cons (ps_set (i := 1) sc__law_pieces.nd rfl (Or.inl rfl) (pe_lst pa_nil))
        (pss_cons (ps_for PassesOwn.never rfl (pi_str (pv 0)) (pg_name (i := 2) sc__law_pieces.nd rfl (Or.inl rfl)) (pss_one (ps_if (PW.pt (pw_and (pt_cmpR op_in_sign (pv 2) pe_str rfl) (pw_and (pt_truth (pv 1) (by intro _; rfl)) (pw_and1 (pt_cmpR op_in_sign (pe_ix Fx.ix_S (pe_ix Fx.ix_L (pv 1) (pe_un un_neg pe_int) (fun _ _ => rfl)) (pe_un un_neg pe_int) (fun _ _ => rfl)) pe_str rfl))))) (pss_one (ps_asg (pe_op op_add_str (pe_ix Fx.ix_L (pv 1) (pe_un un_neg pe_int) (fun _ _ => rfl)) (pv 2)) (pg_sub (pv 1) (pe_un un_neg pe_int) set_list))) (pss_one (ps_expr (pe_bm PySem.F.plainAttrs_list PySem.F.slot_list_append PySem.F.type_list_append mt_append (pv 1) (Fx.pa_c (pv 2) pa_nil)))))))
        (pss_one (ps_ret (pv 1))))), ?_⟩
    obtain ⟨z, rfl, hz, q⟩ := h
    have lz : z.cps.toList.length = z.length := Array.length_toList
    refine seqI fun K1 k1 => ?_
    walk_at "rd"
    refine ⟨by decide, ?_⟩
    intro pr nr
    generalize e_pr : upd H pr _ = H1
    have s1 := new_s nr e_pr
    have hr := new_h e_pr
    clear e_pr
    refine k1 _ _ ?_
    clear k1
    refine seqI fun K1 k1 => ?_
    refine ⟨.str z, rfl, z, rfl, for_S (z := z) (fun i σ H' => ∃ (run : List Nat) (v2 : Option V) (out : List Str), σ = [some (.str z), some (.ref pr), v2] ∧ H' pr = some (.lst (ms (out ++ runS run))) ∧ out ++ pg run (z.cps.toList.drop i) = pieces z ∧ run.length + out.length ≤ i ∧ (out = [] ∨ ∃ o c, out = o ++ [S1 c] ∧ isL c = false) ∧ (∀ c ∈ run, isL c = true) ∧ Same H H') ⟨[], none, [], rfl, hr, rfl, Nat.le_refl _, .inl rfl, fun c h => by (cases h), s1⟩ ?_ ?_⟩
    · rintro i c σ H2 hc ⟨run, v2, out, rfl, hr2, ho, lr, hout, hrun, s2⟩
      clear k1
      have hi := (List.getElem?_eq_some_iff.mp hc).1
      have ed : z.cps.toList.drop i = c :: z.cps.toList.drop (i + 1) := by
        obtain ⟨hlt, e⟩ := List.getElem?_eq_some_iff.mp hc
        rw [List.drop_eq_getElem_cons hlt, e]
      rw [ed] at ho
      have lrs : (runS run).length ≤ run.length := by
        unfold runS
        split
        · exact Nat.zero_le _
        · rename_i h
          show 1 ≤ _
          exact List.length_pos_iff.mpr h
      have lall : (ms (out ++ runS run)).length < 5000 := by
        rw [List.length_map, List.length_append]
        omega
      refine ifI fun A B ka kb => ?_
      have newp : ∀ (run' : List Nat), (if run' = [] then isL c = false else run' = [c] ∧ run = [] ∧ isL c = true) → B H2 := by
        intro run' hr'
        refine kb _ ?_
        walk_at "rd"
        refine ⟨tyL hr2, _, hr2, Nat.lt_of_lt_of_le lall (by decide), ?_⟩
        by_cases e : run' = []
        · rw [if_pos e] at hr'
          rw [pg_non hr'] at ho
          refine ⟨[], out ++ runS run ++ [S1 c], by simp [ms, runS], ?_, ?_, .inr ⟨out ++ runS run, c, rfl, hr'⟩, fun d h => by (cases h), Same.put s2 nr⟩
          · rw [← ho]
            simp
          · rw [List.length_append, List.length_append]
            show 0 + (out.length + (runS run).length + 1) ≤ _
            omega
        · rw [if_neg e] at hr'
          obtain ⟨rfl, rfl, hl⟩ := hr'
          rw [pg_let hl] at ho
          refine ⟨[c], out, ?_, ho, ?_, hout, fun d hd => by rw [List.mem_singleton.mp hd]; exact hl, Same.put s2 nr⟩
          · simp [ms, runS, mkS]
          · show 1 + out.length ≤ _
            have : ([] : List Nat).length = 0 := rfl
            omega
      walk_at "rd"
      refine ⟨c, rfl, ite_i (fun h1 => ?_) (fun h1 => newp [] (by rw [if_pos rfl]; exact decide_eq_false h1))⟩
      have hl : isL c = true := decide_eq_true h1
      refine ⟨_, .inl ⟨_, .inl (.inl hr2), rfl⟩, ite_i (fun h2 => ?_) (fun h2 => ?_)⟩
      · by_cases e : run = []
        · subst e
          have e2 : out ++ runS [] = out := by simp [runS]
          rw [e2] at hr2 h2
          rcases hout with rfl | ⟨o, d, rfl, hd⟩
          · exact absurd h2 (by decide)
          · refine ⟨_, hr2, _, (by rw [ms, List.map_append]; exact atI_last), S1 d, rfl, (show 1 ≤ sizeLine by decide), d, rfl, d, rfl, ?_⟩
            show (if d ∈ letS.cps.toList then A H2 else B H2)
            rw [if_neg (of_decide_eq_false hd)]
            exact newp [c] (by rw [if_neg (by simp)]; exact ⟨rfl, rfl, hl⟩)
        · obtain ⟨r, d, rfl⟩ : ∃ r d, run = r ++ [d] := ⟨run.dropLast, run.getLast e, (List.dropLast_concat_getLast e).symm⟩
          have hd := hrun d (by simp)
          have e2 : runS (r ++ [d]) = [mkS (r ++ [d])] := by rw [runS, if_neg e]
          rw [e2] at hr2 h2 lall
          have lm := mkS_len (r ++ [d])
          have ea : atI (ms (out ++ [mkS (r ++ [d])])) (-1) = some (.str (mkS (r ++ [d]))) := by rw [ms, List.map_append]; exact atI_last
          refine ⟨_, hr2, _, ea, mkS (r ++ [d]), rfl, sz (by omega), d, atI_last (xs := r), d, rfl, ?_⟩
          show (if d ∈ letS.cps.toList then A H2 else B H2)
          rw [if_pos (of_decide_eq_true hd)]
          refine ka _ ?_
          walk_at "rd"
          rw [pg_let hl] at ho
          refine ⟨_, hr2, _, ea, mkS (r ++ [d]), rfl, ?_, _, hr2, out.length, ?_, r ++ [d] ++ [c], out, ?_, ho, ?_, hout, ?_, Same.put s2 nr⟩
          · show (mkS (r ++ [d])).length + 1 ≤ _
            exact sz (by omega)
          · rw [List.length_map, List.length_append]
            exact ixN_last
          · rw [show (mkS (r ++ [d]) ++ { cps := #[c] } : Str) = mkS (r ++ [d] ++ [c]) from mkS_app (r ++ [d]) [c], runS, if_neg (by simp)]
            simp [ms]
          · rw [List.length_append]
            show (r ++ [d]).length + 1 + out.length ≤ _
            omega
          · intro x hx
            rcases List.mem_append.mp hx with hx | hx
            · exact hrun x hx
            · rw [List.mem_singleton.mp hx]
              exact hl
      · have e0 : out ++ runS run = [] := by
          cases h3 : out ++ runS run with
          | nil => rfl
          | cons a b => rw [h3] at h2; exact absurd rfl h2
        have e1 : run = [] := by
          by_cases e : run = []
          · exact e
          · rw [runS, if_neg e] at e0
            simp at e0
        exact newp [c] (by rw [if_neg (by simp)]; exact ⟨rfl, e1, hl⟩)
    rintro σ H2 ⟨run, v2, out, rfl, hr2, ho, lr, hout, hrun, s2⟩
    refine k1 _ _ ?_
    clear k1
    rw [List.drop_length] at ho
    walk_at "rd"
    refine q _ _ s2 nr ?_
    rw [hr2, ← ho]
    rfl
end
section
variable {P : Program} {w : World} {K : PySem.W.Frag} {mg : Str → Option Value} {base : Heap}
theorem ok__law_halves (S : Src K mg "_law_halves" s__law_halves) (T : Tx P K mg) (C__law_pieces : Cal P w K mg base CX0 1 "_law_pieces" ["_law_text"] spPieces) (C__law_codes : Cal P w K mg base CX0 1 "_law_codes" ["_law_sign_here"] spLCodes)  : Cal P w K mg base CX0 2 "_law_halves" ["_law_words", "_law_text"] spHalves := by
  refine S.cal sc__law_halves bn__law_halves (fun vs H Q E h => ?_) (fun f cdv A outer s H vs Q E hr h => ?_)
  · first | (obtain ⟨rfl, _⟩ := h; rfl) | (obtain ⟨_, rfl, _⟩ := h; rfl) | (obtain ⟨_, _, rfl, _⟩ := h; rfl) | (obtain ⟨_, _, _, rfl, _⟩ := h; rfl) | (obtain ⟨_, _, _, _, rfl, _⟩ := h; rfl) | (obtain ⟨_, _, _, _, _, rfl, _⟩ := h; rfl) | (obtain ⟨_, _, _, _, _, _, rfl, _⟩ := h; rfl) | (obtain ⟨_, _, _, _, _, _, _, rfl, _⟩ := h; rfl) | (obtain ⟨_, _, _, _, _, _, _, _, rfl, _⟩ := h; rfl) | (obtain ⟨_, _, _, _, _, _, _, _, _, rfl, _⟩ := h; rfl)
  · skip
    refine ⟨_, (pss_cons (ps_set (i := 2) sc__law_halves.nd rfl (Or.inl rfl) (pe_lst pa_nil))
        (pss_cons (ps_for PassesOwn.never rfl (pi_list (Fx.pe_cal C__law_pieces (hr.mono (by decide)) pass0 (Fx.pa_c (pv 1) pa_nil))) (pg_name (i := 3) sc__law_halves.nd rfl (Or.inl rfl)) (pss_one (ps_if (pt_cmpR Fx.in_S (pv 3) (pv 0) rfl) (pss_one (ps_expr (pe_bm PySem.F.plainAttrs_list PySem.F.slot_list_extend PySem.F.type_list_extend mt_extend (pv 2) (Fx.pa_c (pe_lst (Fx.pa_c pe_int (Fx.pa_c (pe_bm PySem.F.plainAttrs_list PySem.F.slot_list_index PySem.F.type_list_index Fx.idx_L (pv 0) (Fx.pa_c (pv 3) pa_nil)) pa_nil))) pa_nil)))) (pss_one (ps_for PassesOwn.never rfl (pi_str (pv 3)) (pg_name (i := 4) sc__law_halves.nd rfl (Or.inl rfl)) (pss_one (ps_expr (pe_bm PySem.F.plainAttrs_list PySem.F.slot_list_extend PySem.F.type_list_extend mt_extend (pv 2) (Fx.pa_c (Fx.pe_cal C__law_codes (hr.mono (by decide)) pass0 (Fx.pa_c (pv 4) pa_nil)) pa_nil)))))))))
        (pss_one (ps_ret (pe_op op_cat (pv 2) (pe_lst (Fx.pa_c pe_int (Fx.pa_c pe_int (Fx.pa_c pe_int pa_nil))))))))), ?_⟩
    obtain ⟨p, ws, z, rfl, hp, hz, q⟩ := h
    have hp0 := hp
    refine seqI fun K1 k1 => ?_
    walk_at "rd"
    refine ⟨by decide, ?_⟩
    intro pr nr
    generalize e_pr : upd H pr _ = H1
    have s1 := new_s nr e_pr
    have hr := new_h e_pr
    clear e_pr
    try (first | replace hp := s1 _ _ hp | replace hp := hp.same s1 | replace hp := hp.then s1 | replace hp := hp.trans s1)
    refine k1 _ _ ?_
    clear k1
    refine seqI fun K1 k1 => ?_
    refine forI fun R kR => ?_
    walk_at "rd"
    refine ⟨z, rfl, hz, fun pp H2 s2 np hpp => ⟨pp, rfl, ⟨_, .inl (.inl hpp)⟩, kR _ _ ?_⟩⟩
    clear kR
    have ne : pp ≠ pr := fun e => by rw [e, hr] at np; cases np
    have hr2 := s2 _ _ hr
    have pm := pieces_many z
    refine for_list (K := K) (a := pp) (xs := ms (pieces z)) (fun i σ H' => ∃ v3 v4, σ = [some (.ref p), some (.str z), some (.ref pr), v3, v4] ∧ H' pr = some (.lst (mi (((pieces z).take i).map (half1 ws)).flatten)) ∧ H' pp = some (.lst (ms (pieces z))) ∧ Same H H') ⟨none, none, rfl, hr2, hpp, s1.trans s2⟩ (fun i σ H' _ ⟨_, _, _, _, e, _⟩ => .inl (.inl e)) ?_ ?_
    · rintro i y σ H3 hy ⟨v3, v4, rfl, h3, hp3, s3⟩
      clear k1
      have hi := (List.getElem?_eq_some_iff.mp hy).1
      rw [List.length_map] at hi
      rw [List.getElem?_map, List.getElem?_eq_getElem hi] at hy
      have ey : y = .str (pieces z)[i] := (Option.some.inj hy).symm
      subst ey
      obtain ⟨p1, p2⟩ := pieces_len (List.getElem_mem hi)
      have tk : List.take (i + 1) (pieces z) = List.take i (pieces z) ++ [(pieces z)[i]] := by
        rw [List.take_add_one, List.getElem?_eq_getElem hi]
        rfl
      have ll : ((((pieces z).take i).map (half1 ws)).flatten).length ≤ 3 * z.length := by
        refine Nat.le_trans (halves_len ws fun p hp => pg_pos _ _ p (List.mem_of_mem_take hp)) ?_
        have := sum_take (pieces z) i
        rw [pieces_sum] at this
        omega
      have hp3' : H3 p = some (.lst (ms ws)) := s3 _ _ hp0
      have fin : ∀ (l : List Int) (H4 : Hp), half1 ws (pieces z)[i] = l → mi ((((pieces z).take i).map (half1 ws)).flatten ++ l) = mi (((pieces z).take (i + 1)).map (half1 ws)).flatten := by
        intro l H4 el
        rw [tk, ← el, List.map_append, List.flatten_append]
        simp
      refine ifI fun A B ka kb => ?_
      walk_at "rd"
      refine ⟨ws, .inl hp3', ite_i (fun hm => ka _ ?_) (fun hm => kb _ ?_)⟩
      · clear ka kb
        walk_at "rd"
        refine ⟨tyL h3, tyL hp3', ws, hp3', hm, by decide, ?_⟩
        intro pn nn
        generalize e_pn : upd H3 pn _ = H4
        have s4 := new_s nn e_pn
        have h4 := new_h e_pn
        clear e_pn
        try (first | replace hp := s4 _ _ hp | replace hp := hp.same s4 | replace hp := hp.then s4 | replace hp := hp.trans s4)
        try (first | replace hr := s4 _ _ hr | replace hr := hr.same s4 | replace hr := hr.then s4 | replace hr := hr.trans s4)
        refine ⟨_, s4 _ _ h3, ?_, ?_, ?_, Same.put (s3.trans s4) nr⟩
        · rw [mi_len]
          exact sz (by omega)
        · rw [← fin _ H4 (by rw [half1, if_pos hm]), mi_app]
          rfl
        · rw [upd_ne ne]
          exact s4 _ _ hp3
      · clear ka kb
        have pc := (pieces z)[i]
        refine ⟨.str (pieces z)[i], rfl, (pieces z)[i], rfl, for_S (z := (pieces z)[i]) (fun j σ H' => ∃ v4, σ = [some (.ref p), some (.str z), some (.ref pr), some (.str (pieces z)[i]), v4] ∧ H' pr = some (.lst (mi ((((pieces z).take i).map (half1 ws)).flatten ++ (((pieces z)[i].cps.toList.take j).map codeL).flatten))) ∧ H' pp = some (.lst (ms (pieces z))) ∧ Same H H') ⟨v4, rfl, by simpa using h3, hp3, s3⟩ ?_ ?_⟩
        · rintro j c σ H4 hc ⟨v4, rfl, h4, hp4, s4⟩
          walk_at "rd"
          refine ⟨tyL h4, c, rfl, fun pn H5 s5 nn h5 => ⟨pn, rfl, _, s5 _ _ h4, _, h5, ?_, ?_, ?_, Same.put (s4.trans s5) nr⟩⟩
          · have l1 := flat_len ((pieces z)[i].cps.toList.take j)
            have l2 := codeL_len c
            have l3 : ((pieces z)[i].cps.toList.take j).length ≤ (pieces z)[i].length := by
              rw [List.length_take, Array.length_toList]
              exact Nat.min_le_right _ _
            rw [mi_len, List.length_append, List.length_map]
            exact sz (by omega)
          · rw [List.take_add_one, hc]
            simp
          · rw [upd_ne ne]
            exact s5 _ _ hp4
        · rintro σ H4 ⟨v4, rfl, h4, hp4, s4⟩
          refine ⟨_, _, rfl, ?_, hp4, s4⟩
          rw [h4, List.take_of_length_le (Nat.le_refl _), fin _ H4 (by rw [half1, if_neg hm]; rfl)]
    rintro σ H3 ⟨v3, v4, rfl, h3, hp3, s3⟩
    refine k1 _ _ ?_
    clear k1
    rw [List.length_map, List.take_of_length_le (Nat.le_refl _)] at h3
    walk_at "rd"
    refine ⟨by decide, ?_⟩
    intro pn nn
    generalize e_pn : upd H3 pn _ = H4
    have s4 := new_s nn e_pn
    have h4 := new_h e_pn
    clear e_pn
    try (first | replace hp := s4 _ _ hp | replace hp := hp.same s4 | replace hp := hp.then s4 | replace hp := hp.trans s4)
    try (first | replace hr := s4 _ _ hr | replace hr := hr.same s4 | replace hr := hr.then s4 | replace hr := hr.trans s4)
    try (first | replace h4 := s4 _ _ h4 | replace h4 := h4.same s4 | replace h4 := h4.then s4 | replace h4 := h4.trans s4)
    have hl := half_len ws z
    unfold half at hl q
    rw [List.length_append] at hl
    refine ⟨_, s4 _ _ h3, ?_, fun t nt => q t _ ((s3.trans s4).trans (same_new nt)) ((s3.trans s4).free nt) ?_⟩
    · rw [mi_len]
      exact sz (show _ + 3 ≤ 100000 by have : ([15, 0, 0] : List Int).length = 3 := rfl; omega)
    · rw [upd_same, mi_app]
      rfl
end
section
variable {P : Program} {w : World} {K : PySem.W.Frag} {mg : Str → Option Value} {base : Heap}
theorem ok__law_bytes (S : Src K mg "_law_bytes" s__law_bytes) (T : Tx P K mg)   : Cal P w K mg base CX0 1 "_law_bytes" ["_law_halves_here"] spBytes := by
  refine S.cal sc__law_bytes bn__law_bytes (fun vs H Q E h => ?_) (fun f cdv A outer s H vs Q E hr h => ?_)
  · first | (obtain ⟨rfl, _⟩ := h; rfl) | (obtain ⟨_, rfl, _⟩ := h; rfl) | (obtain ⟨_, _, rfl, _⟩ := h; rfl) | (obtain ⟨_, _, _, rfl, _⟩ := h; rfl) | (obtain ⟨_, _, _, _, rfl, _⟩ := h; rfl) | (obtain ⟨_, _, _, _, _, rfl, _⟩ := h; rfl) | (obtain ⟨_, _, _, _, _, _, rfl, _⟩ := h; rfl) | (obtain ⟨_, _, _, _, _, _, _, rfl, _⟩ := h; rfl) | (obtain ⟨_, _, _, _, _, _, _, _, rfl, _⟩ := h; rfl) | (obtain ⟨_, _, _, _, _, _, _, _, _, rfl, _⟩ := h; rfl)
  · skip
    refine ⟨_, (pss_cons (ps_set (i := 1) sc__law_bytes.nd rfl (Or.inr rfl) (Fx.pe_cTy Fx.list_L T.b_list (by decide +kernel) (Fx.pa_c (pv 0) pa_nil)))
        (pss_cons (ps_if (pt_cmpR op_eq (pe_op op_mod (Fx.pe_cB Fx.len_L T.b_len (by decide +kernel) (Fx.pa_c (pv 1) pa_nil)) pe_int) pe_int (nomark _)) (pss_one (ps_expr (pe_bm PySem.F.plainAttrs_list PySem.F.slot_list_append PySem.F.type_list_append mt_append (pv 1) (Fx.pa_c pe_int pa_nil)))) pss_nil)
        (pss_one (ps_ret (pe_lc (own := [("_law_k", 2)]) rfl sc__law_bytes.nd (pi_range1 rfl T.b_range (Fx.pa_c (pe_op op_fdiv (Fx.pe_cB Fx.len_L T.b_len (by decide +kernel) (Fx.pa_c (pv 1) pa_nil)) pe_int) pa_nil)) (blkOk_by (N := N__law_bytes) (sc := defScope s__law_bytes) (by decide +kernel)) (fun _ _ _ _ _ => (pg_name (i := 2) sc__law_bytes.nd rfl (Or.inl rfl))) (fun _ _ _ _ _ => pts_nil) (fun _ _ _ _ _ => (pe_op op_add (pe_op op_mul (pe_ix Fx.ix_L (pv 1) (pe_op op_mul pe_int (pv 2)) (fun _ _ => rfl)) pe_int) (pe_ix Fx.ix_L (pv 1) (pe_op op_add (pe_op op_mul pe_int (pv 2)) pe_int) (fun _ _ => rfl))))))))), ?_⟩
    obtain ⟨p, l, rfl, hp, hl, q⟩ := h
    refine seqI fun K1 k1 => ?_
    walk_at "rd"
    refine ⟨_, hp, ?_⟩
    intro pr nr
    generalize e_pr : upd H pr _ = H1
    have s1 := new_s nr e_pr
    have hr := new_h e_pr
    clear e_pr
    refine k1 _ _ ?_
    clear k1
    refine seqI fun K1 k1 => ?_
    have go : ∀ H2, Same H H2 → H2 pr = some (.lst (mi (pad2 l))) → K1 [some (V.ref p), some (V.ref pr), none] H2 := by
      intro H2 s2 h2
      refine k1 _ _ ?_
      clear k1
      walk_at "rd"
      have pl := pad2_len l
      have eh : (((mi (pad2 l)).length : Nat) : Int) / 2 = (((l.length + 1) / 2 : Nat) : Int) := by rw [mi_len, pl]; omega
      refine ⟨_, rfl, pr, _, rfl, h2, _, _, rfl, rfl, ⟨by decide, by decide⟩, _, rfl, ?_, ?_, fun D nD => ?_⟩
      · rw [eh]
        omega
      · rw [eh]
        omega
      rw [eh, Int.toNat_natCast]
      refine lc_range (lo := 0) (n := (l.length + 1) / 2) (fun i H3 => H3 = upd H2 D (.lst (mi ((List.range i).map fun k => (pad2 l).getD (2 * k) 0 * 16 + (pad2 l).getD (2 * k + 1) 0)))) rfl ?_ ?_
      · rintro i H3 hi rfl
        have s3 := same_new (o := .lst (mi ((List.range i).map fun k => (pad2 l).getD (2 * k) 0 * 16 + (pad2 l).getD (2 * k + 1) 0))) nD
        have i1 : 2 * i < (pad2 l).length := by omega
        have i2 : 2 * i + 1 < (pad2 l).length := by omega
        have g1 : atI (mi (pad2 l)) (2 * (0 + (i : Int))) = some (.int (pad2 l)[2 * i]) := by
          rw [show (2 * (0 + (i : Int))) = ((2 * i : Nat) : Int) by omega]
          exact atI_get (by simp [mi, i1])
        have g2 : atI (mi (pad2 l)) (2 * (0 + (i : Int)) + 1) = some (.int (pad2 l)[2 * i + 1]) := by
          rw [show (2 * (0 + (i : Int)) + 1) = ((2 * i + 1 : Nat) : Int) by omega]
          exact atI_get (by simp [mi, i2])
        refine ⟨rfl, ?_⟩
        walk_at "rd"
        refine ⟨.inl ⟨by decide, by decide⟩, _, s3 _ _ h2, _, g1, _, rfl, .inr ⟨by decide, by decide⟩, .inl ⟨by decide, by decide⟩, _, s3 _ _ h2, _, g2, _, rfl, ?_, ?_⟩
        · rw [mi_len, List.length_map, List.length_range]
          exact Nat.lt_of_lt_of_le (by omega : _ < 6000) (by decide)
        · rw [upd_upd, range_succ' (fun k => (pad2 l).getD (2 * k) 0 * 16 + (pad2 l).getD (2 * k + 1) 0), mi_app]
          simp [i1, i2]
      · rintro H3 rfl
        exact q D _ (s2.trans (same_new nD)) (s2.free nD) upd_same
    refine ifI fun A B ka kb => ?_
    walk_at "rd"
    refine ⟨_, hr, by decide, ite_i (fun h1 => ka _ ?_) (fun h1 => kb _ ?_)⟩
    · rw [mi_len] at h1
      walk_at "rd"
      refine ⟨tyL hr, _, hr, ?_, go _ (Same.put s1 nr) ?_⟩
      · rw [mi_len]
        exact Nat.lt_of_lt_of_le (by omega : _ < 20000) (by decide)
      · rw [upd_same]
        unfold pad2
        rw [if_pos (by omega), mi_app]
        rfl
    · rw [mi_len] at h1
      walk_at "rd"
      refine go _ s1 ?_
      unfold pad2
      rw [if_neg (by omega)]
      exact hr
end
section
variable {P : Program} {w : World} {K : PySem.W.Frag} {mg : Str → Option Value} {base : Heap}
theorem ok__law_next (S : Src K mg "_law_next" s__law_next) (T : Tx P K mg)   : Cal P w K mg base CX0 1 "_law_next" ["_law_words", "_law_halves_here", "_law_place"] spNextL := by
  refine S.cal sc__law_next bn__law_next (fun vs H Q E h => ?_) (fun f cdv A outer s H vs Q E hr h => ?_)
  · first | (obtain ⟨rfl, _⟩ := h; rfl) | (obtain ⟨_, rfl, _⟩ := h; rfl) | (obtain ⟨_, _, rfl, _⟩ := h; rfl) | (obtain ⟨_, _, _, rfl, _⟩ := h; rfl) | (obtain ⟨_, _, _, _, rfl, _⟩ := h; rfl) | (obtain ⟨_, _, _, _, _, rfl, _⟩ := h; rfl) | (obtain ⟨_, _, _, _, _, _, rfl, _⟩ := h; rfl) | (obtain ⟨_, _, _, _, _, _, _, rfl, _⟩ := h; rfl) | (obtain ⟨_, _, _, _, _, _, _, _, rfl, _⟩ := h; rfl) | (obtain ⟨_, _, _, _, _, _, _, _, _, rfl, _⟩ := h; rfl)
  · skip
    refine ⟨_, (pss_cons (ps_set (i := 3) sc__law_next.nd rfl (Or.inr rfl) (pe_slice Fx.sl_L (pv 1) (po_some (pv 2)) (po_some (pe_op op_add (pv 2) pe_int))))
        (pss_cons (ps_if (pt_not (pt_truth (pv 3) (by intro _; rfl))) (pss_one (ps_ret (pe_tup (Fx.pa_c pe_non (Fx.pa_c pe_int pa_nil))))) pss_nil)
        (pss_cons (ps_if (pt_cmpR op_lt (pe_ix Fx.ix_L (pv 3) pe_int (fun _ _ => rfl)) pe_int (nomark _)) (pss_one (ps_ret (pe_tup (Fx.pa_c (pe_ix Fx.ix_S pe_str (pe_ix Fx.ix_L (pv 3) pe_int (fun _ _ => rfl)) (fun _ _ => rfl)) (Fx.pa_c pe_int pa_nil))))) pss_nil)
        (pss_cons (ps_if (pt_cmpR op_lt (Fx.pe_cB Fx.len_L T.b_len (by decide +kernel) (Fx.pa_c (pv 3) pa_nil)) pe_int (nomark _)) (pss_one (ps_ret (pe_tup (Fx.pa_c pe_non (Fx.pa_c pe_int pa_nil))))) pss_nil)
        (pss_cons (ps_if (pt_cmpR op_lt (pe_ix Fx.ix_L (pv 3) pe_int (fun _ _ => rfl)) pe_int (nomark _)) (pss_one (ps_ret (pe_tup (Fx.pa_c (pe_ix Fx.ix_S (pe_ix Fx.ix_L (pe_lst (Fx.pa_c pe_str (Fx.pa_c pe_str pa_nil))) (pe_op op_sub (pe_ix Fx.ix_L (pv 3) pe_int (fun _ _ => rfl)) pe_int) (fun _ _ => rfl)) (pe_ix Fx.ix_L (pv 3) pe_int (fun _ _ => rfl)) (fun _ _ => rfl)) (Fx.pa_c pe_int pa_nil))))) pss_nil)
        (pss_cons (ps_if (PW.pt (pw_and (pt_cmpR op_eq (pe_ix Fx.ix_L (pv 3) pe_int (fun _ _ => rfl)) pe_int (nomark _)) (pw_and1 (pt_cmpR op_lt (pe_ix Fx.ix_L (pv 3) pe_int (fun _ _ => rfl)) (Fx.pe_cB Fx.len_L T.b_len (by decide +kernel) (Fx.pa_c (pv 0) pa_nil)) (nomark _))))) (pss_one (ps_ret (pe_tup (Fx.pa_c (pe_ix Fx.ix_L (pv 0) (pe_ix Fx.ix_L (pv 3) pe_int (fun _ _ => rfl)) (fun _ _ => rfl)) (Fx.pa_c pe_int pa_nil))))) pss_nil)
        (pss_cons (ps_if (PW.pt (pw_or (pt_cmpR op_eq (pe_ix Fx.ix_L (pv 3) pe_int (fun _ _ => rfl)) pe_int (nomark _)) (pw_or1 (pt_cmpR op_lt (Fx.pe_cB Fx.len_L T.b_len (by decide +kernel) (Fx.pa_c (pv 3) pa_nil)) pe_int (nomark _))))) (pss_one (ps_ret (pe_tup (Fx.pa_c pe_non (Fx.pa_c pe_int pa_nil))))) pss_nil)
        (pss_cons (ps_if (PW.pt (pw_and (pt_cmpR op_eq (pe_ix Fx.ix_L (pv 3) pe_int (fun _ _ => rfl)) pe_int (nomark _)) (pw_and1 (pt_cmpR op_eq (pe_ix Fx.ix_L (pv 3) pe_int (fun _ _ => rfl)) pe_int (nomark _))))) (pss_one (ps_ret (pe_tup (Fx.pa_c pe_str (Fx.pa_c pe_int pa_nil))))) pss_nil)
        (pss_cons (ps_set (i := 4) sc__law_next.nd rfl (Or.inl rfl) pe_str)
        (pss_cons (ps_setLc (i := 5) (own := [("_law_sign_here", 6)]) rfl sc__law_next.nd rfl rfl (sw_true rfl rfl rfl (by decide +kernel)) (pi_str (pv 4)) (blkOk_by (N := N__law_next) (sc := defScope s__law_next) (by decide +kernel)) (fun _ _ _ _ _ => (pg_name (i := 6) sc__law_next.nd rfl (Or.inl rfl))) (fun _ _ _ _ _ => (pts_one (pt_cmpR op_eq (Fx.pe_cB Fx.ord_S T.b_ord (by decide +kernel) (Fx.pa_c (pv 6) pa_nil)) (pe_op op_add (pe_op op_mul (pe_ix Fx.ix_L (pv 3) pe_int (fun _ _ => rfl)) pe_int) (pe_ix Fx.ix_L (pv 3) pe_int (fun _ _ => rfl))) (nomark _)))) (fun _ _ _ _ _ => (pv 6)))
        (pss_cons (ps_if (pt_not (pt_truth (pv 5) (by intro _; rfl))) (pss_one (ps_ret (pe_tup (Fx.pa_c pe_non (Fx.pa_c pe_int pa_nil))))) pss_nil)
        (pss_one (ps_ret (pe_tup (Fx.pa_c (pe_ix Fx.ix_L (pv 5) pe_int (fun _ _ => rfl)) (Fx.pa_c pe_int pa_nil)))))))))))))))), ?_⟩
    obtain ⟨pw, ph, ws, hs, pl, rfl, hpw, hph, hn, hl, hw, q⟩ := h
    refine seqI fun K1 k1 => ?_
    walk_at "rd"
    refine ⟨_, hph, ?_⟩
    rw [show ((pl : Int) + 3) = ((pl + 3 : Nat) : Int) by omega, cutV_two, mi_drop, mi_take, show pl + 3 - pl = 3 by omega]
    have hn3 := dr16 hn pl
    generalize hs.drop pl = h at *
    intro pr nr
    generalize e_pr : upd H pr _ = H1
    have s1 := new_s nr e_pr
    have hr := new_h e_pr
    clear e_pr
    try (first | replace hpw := s1 _ _ hpw | replace hpw := hpw.same s1 | replace hpw := hpw.then s1 | replace hpw := hpw.trans s1)
    try (first | replace hph := s1 _ _ hph | replace hph := hph.same s1 | replace hph := hph.then s1 | replace hph := hph.trans s1)
    refine k1 _ _ ?_
    clear k1
    have tup : ∀ (v : V) (i : Int), nxV (nx fL ws h) = [v, .int i] → ∀ (H2 : Hp), Same H1 H2 → ∀ q1, H2 q1 = none → Q (.ref q1) (upd H2 q1 (.tup [v, .int i])) := fun v i e H2 s2 q1 nq => by
      refine q q1 _ ((s1.trans s2).trans (same_new nq)) ((s1.trans s2).free nq) ?_
      rw [upd_same, e]
    have tru : ∀ xs : List V, H1 pr = some (.lst xs) → TruV K (.ref pr) H1 (!xs.isEmpty) := fun xs e => .inl ⟨xs, .inl (.inl e), rfl⟩
    have lw : ((ms ws).length : Int) = ws.length := by rw [List.length_map]
    cases h with
    | nil =>
      refine seqI fun K1 k1 => ?_
      walk_at "rd"
      refine ⟨_, tru _ hr, ?_⟩
      exact ⟨by decide, tup _ _ rfl _ (Same.refl _)⟩
    | cons a r =>
      have a1 := hn3 a List.mem_cons_self
      have hr0 : H1 pr = some (.lst (.int a :: mi (r.take 2))) := hr
      refine seqI fun K1 k1 => ?_
      walk_at "rd"
      refine ⟨_, tru _ hr0, ?_⟩
      refine k1 _ _ ?_
      clear k1
      have ga : atI (V.int a :: mi (r.take 2)) 0 = some (.int a) := atI_get (xs := V.int a :: mi (r.take 2)) (i := 0) rfl
      refine seqI fun K1 k1 => ?_
      refine ifI fun A B ka kb => ?_
      walk_at "rd"
      refine ⟨_, hr0, _, ga, _, rfl, ite_i (fun h2 => ka _ ?_) (fun h2 => kb _ ?_)⟩
      · walk_at "rd"
        refine ⟨_, hr0, _, ga, _, rfl, by decide, _, rowAt rowA a1.1 (by rw [lA]; exact h2), by decide, tup _ _ ?_ _ (Same.refl _)⟩
        dsimp only [nx]
        rw [if_pos h2]
        rfl
      clear ka kb
      walk_at "rd"
      refine k1 _ _ ?_
      clear k1
      cases r with
      | nil =>
        refine seqI fun K1 k1 => ?_
        walk_at "rd"
        refine ⟨_, hr0, ?_⟩
        have l1 : (((V.int a :: mi (List.take 2 [])).length : Nat) : Int) < 2 := by show ((1 : Nat) : Int) < 2; decide
        rw [if_pos l1]
        refine ⟨by decide, tup _ _ ?_ _ (Same.refl _)⟩
        dsimp only [nx]
        rw [if_neg h2]
        rfl
      | cons b r2 =>
        have b1 := hn3 b (List.mem_cons_of_mem _ List.mem_cons_self)
        have hr1 : H1 pr = some (.lst (.int a :: .int b :: mi (r2.take 1))) := hr
        have gb : atI (V.int a :: V.int b :: mi (r2.take 1)) 1 = some (.int b) := atI_get (xs := V.int a :: V.int b :: mi (r2.take 1)) (i := 1) rfl
        have ga : atI (V.int a :: V.int b :: mi (r2.take 1)) 0 = some (.int a) := atI_get (xs := V.int a :: V.int b :: mi (r2.take 1)) (i := 0) rfl
        clear hr hr0
        refine seqI fun K1 k1 => ?_
        walk_at "rd"
        refine ⟨_, hr1, ?_⟩
        rw [if_neg (by simp only [List.length_cons]; omega)]
        refine k1 _ _ ?_
        clear k1
        refine seqI fun K1 k1 => ?_
        refine ifI fun A B ka kb => ?_
        walk_at "rd"
        refine ⟨_, hr1, _, ga, _, rfl, ite_i (fun h3 => ka _ ?_) (fun h3 => kb _ ?_)⟩
        · walk_at "rd"
          refine ⟨by decide, ?_⟩
          intro p2 n2
          have s2 := same_new (o := .lst [.str rowB, .str rowC]) n2
          have h2' : (upd H1 p2 (.lst [.str rowB, .str rowC])) pr = some (.lst (V.int a :: V.int b :: mi (r2.take 1))) := s2 _ _ hr1
          obtain ⟨rw_, er, lr, en⟩ : ∃ r : Str, atI [V.str rowB, V.str rowC] (a - 12) = some (.str r) ∧ r.cps.toList.length = 16 ∧ nx fL ws (a :: b :: r2) = some (rowSg r b, 2) := by
            rcases (by omega : a = 12 ∨ a = 13) with rfl | rfl
            · refine ⟨rowB, rfl, lB, ?_⟩
              dsimp only [nx]
              rw [if_neg h2, if_pos rfl]
            · refine ⟨rowC, rfl, lC, ?_⟩
              dsimp only [nx]
              rw [if_neg h2, if_neg (by decide), if_pos rfl]
          refine ⟨_, h2', _, ga, _, rfl, _, er, _, h2', _, gb, rw_, rfl, _, rfl, ?_, _, rowAt rw_ b1.1 (by rw [lr]; exact b1.2), by decide, tup _ _ ?_ _ s2⟩
          · have : rw_.length = 16 := by rw [← lr, Array.length_toList]; rfl
            exact sz (by omega)
          · rw [en]
            rfl
        clear ka kb
        walk_at "rd"
        refine k1 _ _ ?_
        clear k1
        refine seqI fun K1 k1 => ?_
        have stay : (a ≠ 14 ∨ ¬ b < (ws.length : Int)) → K1 [some (V.ref pw), some (V.ref ph), some (V.int pl), some (V.ref pr), none, none, none] H1 := by
          intro g
          refine k1 _ _ ?_
          clear k1
          refine seqI fun K1 k1 => ?_
          refine ifI fun A B ka kb => ?_
          walk_at "rd"
          refine ⟨_, hr1, _, ga, rfl, ite_i (fun h4 => ka _ ?_) (fun h4 => ?_)⟩
          · walk_at "rd"
            refine ⟨by decide, tup _ _ ?_ _ (Same.refl _)⟩
            have h4 := V.int.inj h4
            dsimp only [nx]
            rw [if_neg h2, if_neg (by omega), if_neg (by omega), if_pos h4, List.getElem?_eq_none (by omega)]
            rfl
          have h4 : a ≠ 14 := fun e => h4 (by rw [e])
          have h5 : a = 15 := by omega
          subst h5
          refine ⟨_, hr1, ite_i (fun h6 => ka _ ?_) (fun h6 => kb _ ?_)⟩
          · walk_at "rd"
            refine ⟨by decide, tup _ _ ?_ _ (Same.refl _)⟩
            cases r2 with
            | nil => rfl
            | cons c r3 =>
              simp only [List.take_succ_cons, List.map_cons, List.length_cons, List.take_zero, List.map_nil, List.length_nil] at h6
              omega
          cases r2 with
          | nil => exact absurd (show ((2 : Nat) : Int) < 3 by decide) h6
          | cons c r3 =>
            clear ka kb h6
            have c1 := hn3 c (List.mem_cons_of_mem _ (List.mem_cons_of_mem _ List.mem_cons_self))
            have hr1 : H1 pr = some (.lst [.int 15, .int b, .int c]) := hr1
            have gc : atI [V.int 15, V.int b, V.int c] 2 = some (.int c) := rfl
            have gb : atI [V.int 15, V.int b, V.int c] 1 = some (.int b) := rfl
            walk_at "rd"
            refine k1 _ _ ?_
            clear k1
            refine seqI fun K1 k1 => ?_
            refine ifI fun A B ka kb => ?_
            walk_at "rd"
            have cont : ¬ (b = 0 ∧ c = 0) → B H1 := by
              intro g2
              refine kb _ ?_
              clear ka kb
              walk_at "rd"
              refine k1 _ _ ?_
              clear k1
              refine seqI fun K1 k1 => ?_
              walk_at "rd"
              refine k1 _ _ ?_
              clear k1
              refine seqI fun K1 k1 => ?_
              refine ⟨.str othersS, rfl, othersS, rfl, fun D nD => ?_⟩
              refine lc_S (z := othersS) (fun i H2 => H2 = upd H1 D (.lst (((othersS.cps.toList.take i).filter fun (c1 : Nat) => decide ((c1 : Int) = b * 16 + c)).map fun c1 => V.str (S1 c1)))) rfl ?_ ?_
              · rintro i c1 H2 hc1 rfl
                refine ⟨rfl, ?_⟩
                walk_at "rd"
                have sD := same_new (o := .lst (((othersS.cps.toList.take i).filter fun (c1 : Nat) => decide ((c1 : Int) = b * 16 + c)).map fun c1 => V.str (S1 c1))) nD
                refine ⟨rfl, _, sD _ _ hr1, _, gb, _, rfl, .inl ⟨by omega, by omega⟩, _, sD _ _ hr1, _, gc, _, rfl, ?_⟩
                have tk : List.take (i + 1) othersS.cps.toList = List.take i othersS.cps.toList ++ [c1] := by
                  rw [List.take_add_one, hc1]
                  rfl
                rw [tk, List.filter_append, List.map_append]
                refine ite_i (fun g => ⟨?_, ?_⟩) (fun g => ?_)
                · rw [List.length_map]
                  refine Nat.lt_of_le_of_lt (List.length_filter_le _ _) ?_
                  rw [List.length_take]
                  have : othersS.cps.toList.length ≤ 60 := by decide +kernel
                  exact Nat.lt_of_lt_of_le (by omega : _ < 100) (by decide)
                · rw [upd_upd, List.filter_cons_of_pos (by simpa using g)]
                  rfl
                · rw [List.filter_cons_of_neg (by simpa using g)]
                  simp
              · rintro H2 rfl
                rw [List.take_length, filt1 (by omega) _ others_nd]
                walk_at "rd"
                refine k1 _ _ ?_
                clear k1
                have en : nx fL ws (15 :: b :: c :: r3) = (fL (b * 16 + c)).map fun z => (z, 3) := by
                  dsimp only [nx]
                  rw [if_neg h2, if_neg (by decide), if_neg (by decide), if_neg (by decide), if_neg g2]
                have ef : fL (b * 16 + c) = if (b * 16 + c).toNat ∈ othersS.cps.toList then some (S1 (b * 16 + c).toNat) else none := rfl
                rw [ef] at en
                by_cases hm : (b * 16 + c).toNat ∈ othersS.cps.toList
                · rw [if_pos hm] at en ⊢
                  have sD := same_new (H := H1) (o := .lst [V.str (S1 (b * 16 + c).toNat)]) nD
                  refine seqI fun K1 k1 => ?_
                  walk_at "rd"
                  refine ⟨_, .inl ⟨_, .inl (.inl upd_same), rfl⟩, ?_⟩
                  rw [if_neg (by simp)]
                  refine k1 _ _ ?_
                  clear k1
                  walk_at "rd"
                  refine ⟨_, rfl, by decide, tup _ _ ?_ _ sD⟩
                  rw [en]
                  rfl
                · rw [if_neg hm] at en ⊢
                  have sD := same_new (H := H1) (o := .lst []) nD
                  refine seqI fun K1 k1 => ?_
                  walk_at "rd"
                  refine ⟨_, .inl ⟨_, .inl (.inl upd_same), rfl⟩, ?_⟩
                  rw [if_pos (by simp)]
                  refine ⟨by decide, tup _ _ ?_ _ sD⟩
                  rw [en]
                  rfl
            refine ⟨_, hr1, _, gb, rfl, ite_i (fun h7 => ?_) (fun h7 => cont fun k => h7 (by rw [k.1]))⟩
            refine ⟨_, hr1, _, gc, rfl, ite_i (fun h8 => ka _ ?_) (fun h8 => cont fun k => h8 (by rw [k.2]))⟩
            walk_at "rd"
            refine ⟨by decide, tup _ _ ?_ _ (Same.refl _)⟩
            rw [V.int.inj h7, V.int.inj h8]
            rfl
        refine ifI fun A B ka kb => ?_
        walk_at "rd"
        have stay2 : (a ≠ 14 ∨ ¬ b < (ws.length : Int)) → B H1 := fun g => kb _ (by walk_at "rd"; exact stay g)
        refine ⟨_, hr1, _, ga, rfl, ite_i (fun h4 => ?_) (fun h4 => stay2 (.inl fun e => h4 (by rw [e])))⟩
        have h4 := V.int.inj h4
        subst h4
        refine ⟨_, hr1, _, gb, _, hpw, _, rfl, ite_i (fun h5 => ka _ ?_) (fun h5 => stay2 (.inr (by rw [← lw]; exact h5)))⟩
        rw [lw] at h5
        obtain ⟨bn, rfl⟩ : ∃ m : Nat, b = (m : Int) := ⟨b.toNat, by omega⟩
        have hbn : bn < ws.length := by omega
        walk_at "rd"
        refine ⟨_, hr1, _, gb, _, rfl, _, hpw, _, atI_get (xs := ms ws) (i := bn) (by rw [List.getElem?_map, List.getElem?_eq_getElem hbn]; rfl), by decide, tup _ _ ?_ _ (Same.refl _)⟩
        dsimp only [nx]
        rw [if_neg h2, if_neg (by decide), if_neg (by decide), if_pos rfl, Int.toNat_natCast, List.getElem?_eq_getElem hbn]
        rfl
end
section
variable {P : Program} {w : World} {K : PySem.W.Frag} {mg : Str → Option Value} {base : Heap}
theorem ok__law_read (S : Src K mg "_law_read" s__law_read) (T : Tx P K mg) (C__law_next : Cal P w K mg base CX0 1 "_law_next" ["_law_words", "_law_halves_here", "_law_place"] spNextL) (C__law_halves : Cal P w K mg base CX0 2 "_law_halves" ["_law_words", "_law_text"] spHalves) (C__law_bytes : Cal P w K mg base CX0 1 "_law_bytes" ["_law_halves_here"] spBytes)  : Cal P w K mg base CX0 3 "_law_read" ["_law_words", "_law_row_here", "_law_at"] spReadL := by
  refine S.cal sc__law_read bn__law_read (fun vs H Q E h => ?_) (fun f cdv A outer s H vs Q E hr h => ?_)
  · first | (obtain ⟨rfl, _⟩ := h; rfl) | (obtain ⟨_, rfl, _⟩ := h; rfl) | (obtain ⟨_, _, rfl, _⟩ := h; rfl) | (obtain ⟨_, _, _, rfl, _⟩ := h; rfl) | (obtain ⟨_, _, _, _, rfl, _⟩ := h; rfl) | (obtain ⟨_, _, _, _, _, rfl, _⟩ := h; rfl) | (obtain ⟨_, _, _, _, _, _, rfl, _⟩ := h; rfl) | (obtain ⟨_, _, _, _, _, _, _, rfl, _⟩ := h; rfl) | (obtain ⟨_, _, _, _, _, _, _, _, rfl, _⟩ := h; rfl) | (obtain ⟨_, _, _, _, _, _, _, _, _, rfl, _⟩ := h; rfl)
  · skip
    refine ⟨_, (pss_cons (ps_set (i := 3) sc__law_read.nd rfl (Or.inl rfl) (pe_lst pa_nil))
        (pss_cons (ps_for PassesOwn.never rfl (pi_list (pe_slice Fx.sl_L (pv 1) (po_some (pv 2)) po_none)) (pg_name (i := 4) sc__law_read.nd rfl (Or.inl rfl)) (pss_one (ps_expr (pe_bm PySem.F.plainAttrs_list PySem.F.slot_list_extend PySem.F.type_list_extend mt_extend (pv 3) (Fx.pa_c (pe_lst (Fx.pa_c (pe_op op_fdiv (pv 4) pe_int) (Fx.pa_c (pe_op op_mod (Fx.pe_cTy Fx.int_I T.b_int (by decide +kernel) (Fx.pa_c (pv 4) pa_nil)) pe_int) pa_nil))) pa_nil)))))
        (pss_cons (ps_set (i := 5) sc__law_read.nd rfl (Or.inl rfl) pe_str)
        (pss_cons (ps_set (i := 6) sc__law_read.nd rfl (Or.inl rfl) pe_int)
        (pss_cons (ps_for PassesOwn.never rfl (pi_range1 rfl T.b_range (Fx.pa_c (Fx.pe_cB Fx.len_L T.b_len (by decide +kernel) (Fx.pa_c (pv 3) pa_nil)) pa_nil)) (pg_name (i := 7) sc__law_read.nd rfl (Or.inl rfl)) (pss_cons (ps_set (i := 8) sc__law_read.nd rfl (Or.inl rfl) (Fx.pe_cal C__law_next (hr.mono (by decide)) pass0 (Fx.pa_c (pv 0) (Fx.pa_c (pv 3) (Fx.pa_c (pv 6) pa_nil)))))
        (pss_cons (ps_if (pt_cmpR op_isNon (pe_ix Fx.ix_T (pv 8) pe_int (fun _ _ => rfl)) pe_non (nomark _)) (pss_one (ps_ret pe_non)) pss_nil)
        (pss_cons (ps_set (i := 6) sc__law_read.nd rfl (Or.inl rfl) (pe_op op_add (pv 6) (pe_ix Fx.ix_T (pv 8) pe_int (fun _ _ => rfl))))
        (pss_cons (ps_if (pt_cmpR op_eq (pe_ix Fx.ix_T (pv 8) pe_int (fun _ _ => rfl)) pe_str (nomark _)) (pss_cons (ps_set (i := 9) sc__law_read.nd rfl (Or.inl rfl) (pe_op op_add (pv 2) (pe_op op_fdiv (pe_op op_add (pv 6) pe_int) pe_int)))
        (pss_cons (ps_if (PW.pt (pw_and (pt_cmpR op_le (Fx.pe_cB Fx.len_S T.b_len (by decide +kernel) (Fx.pa_c (pv 5) pa_nil)) pe_int (nomark _)) (pw_and1 (pt_cmpR (Fx.eq_LL hr.units) (Fx.pe_cal C__law_bytes (hr.mono (by decide)) pass0 (Fx.pa_c (Fx.pe_cal C__law_halves (hr.mono (by decide)) pass0 (Fx.pa_c (pv 0) (Fx.pa_c (pv 5) pa_nil))) pa_nil)) (Fx.pe_cTy Fx.list_L T.b_list (by decide +kernel) (Fx.pa_c (pe_slice Fx.sl_L (pv 1) (po_some (pv 2)) (po_some (pv 9))) pa_nil)) (nomark _))))) (pss_one (ps_ret (pe_tup (Fx.pa_c (pv 5) (Fx.pa_c (pv 9) pa_nil))))) pss_nil)
        (pss_one (ps_ret pe_non)))) pss_nil)
        (pss_one (ps_set (i := 5) sc__law_read.nd rfl (Or.inl rfl) (pe_op op_add_str (pv 5) (pe_ix Fx.ix_T (pv 8) pe_int (fun _ _ => rfl))))))))))
        (pss_one (ps_ret pe_non))))))), ?_⟩
    obtain ⟨pw, pr, ws, l, at_, rfl, hpw, hpr, ok, hb, hl, q⟩ := h
    refine seqI fun K1 k1 => ?_
    walk_at "rd"
    refine ⟨by decide, ?_⟩
    have hpw0 := hpw
    have hpr0 := hpr
    intro ph nh
    generalize e_ph : upd H ph _ = H1
    have s1 := new_s nh e_ph
    have hh := new_h e_ph
    clear e_ph
    try (first | replace hpw := s1 _ _ hpw | replace hpw := hpw.same s1 | replace hpw := hpw.then s1 | replace hpw := hpw.trans s1)
    try (first | replace hpr := s1 _ _ hpr | replace hpr := hpr.same s1 | replace hpr := hpr.then s1 | replace hpr := hpr.trans s1)
    refine k1 _ _ ?_
    clear k1
    refine seqI fun K1 k1 => ?_
    refine forI fun R kR => ?_
    walk_at "rd"
    refine ⟨_, hpr, fun pc nc => ⟨⟨_, .inl (.inl upd_same)⟩, kR _ _ ?_⟩⟩
    clear kR
    rw [cutV_lo, mi_drop]
    have sc := same_new (o := .lst (mi (l.drop at_))) nc
    have ne : pc ≠ ph := fun e => by rw [e, hh] at nc; cases nc
    refine for_list (K := K) (a := pc) (xs := mi (l.drop at_)) (fun i σ H' => ∃ v4, σ = [some (.ref pw), some (.ref pr), some (.int at_), some (.ref ph), v4, none, none, none, none, none] ∧ H' ph = some (.lst (mi (nib ((l.drop at_).take i)))) ∧ H' pc = some (.lst (mi (l.drop at_))) ∧ Same H H') ⟨none, rfl, sc _ _ hh, upd_same, s1.trans sc⟩ (fun i σ H' _ ⟨_, _, _, e, _⟩ => .inl (.inl e)) ?_ ?_
    · rintro i y σ H2 hy ⟨v4, rfl, h2, hc2, s2⟩
      clear k1
      obtain ⟨n, rfl, hn⟩ := mapI_some hy
      have hi := (List.getElem?_eq_some_iff.mp hn).1
      rw [List.length_drop] at hi
      walk_at "rd"
      refine ⟨tyL h2, ⟨by decide, by decide⟩, by decide, by decide, ?_⟩
      intro p3 n3
      generalize e_p3 : upd H2 p3 _ = H3
      have s3 := new_s n3 e_p3
      have h3 := new_h e_p3
      clear e_p3
      try (first | replace hpw := s3 _ _ hpw | replace hpw := hpw.same s3 | replace hpw := hpw.then s3 | replace hpw := hpw.trans s3)
      try (first | replace hpr := s3 _ _ hpr | replace hpr := hpr.same s3 | replace hpr := hpr.then s3 | replace hpr := hpr.trans s3)
      try (first | replace hh := s3 _ _ hh | replace hh := hh.same s3 | replace hh := hh.then s3 | replace hh := hh.trans s3)
      refine ⟨_, s3 _ _ h2, ?_, ?_, ?_, Same.put (s2.trans s3) nh⟩
      · rw [mi_len, nib_len, List.length_take]
        exact Nat.le_trans (show 2 * min i (l.drop at_).length + 2 ≤ 20000 by omega) (by decide)
      · rw [List.take_add_one, hn]
        show _ = mi (nib (_ ++ [n]))
        rw [nib_app, mi_app]
        rfl
      · rw [upd_ne ne]
        exact s3 _ _ hc2
    rintro σ H2 ⟨v4, rfl, h2, hc2, s2⟩
    refine k1 _ _ ?_
    clear k1
    rw [mi_len, List.take_length] at h2
    have h16 : NbOk (nib (l.drop at_)) := nib_16 fun y hy => hb y (List.mem_of_mem_drop hy)
    have lh : (nib (l.drop at_)).length ≤ 10000 := by
      rw [nib_len, List.length_drop]
      omega
    refine seqI fun K1 k1 => ?_
    walk_at "rd"
    refine k1 _ _ ?_
    clear k1
    refine seqI fun K1 k1 => ?_
    walk_at "rd"
    refine k1 _ _ ?_
    clear k1
    generalize hhs : nib (l.drop at_) = hs at *
    have qf : ∀ (v : V) (H' : Hp), Same H2 H' → optR H' v (rdR ws l at_) → Q v H' := fun v H' s k => q v H' (s2.trans s) k
    unfold rdR at qf
    rw [hhs] at qf
    have hpw := s2 _ _ hpw0
    have hpr := s2 _ _ hpr0
    clear s1 hh hc2 s2 q
    refine seqI fun K1 k1 => ?_
    refine forI fun R kR => ?_
    walk_at "rd"
    refine ⟨_, h2, by rw [mi_len]; omega, by rw [mi_len]; omega, kR _ _ ?_⟩
    clear kR
    rw [mi_len, Int.toNat_natCast]
    generalize eR : rdL ws hs.length hs "" 0 = R at qf
    refine for_range (lo := 0) (n := hs.length) (fun i σ H' => ∃ (t : Str) (n : Nat) (v7 v8 v9 : Option V), σ = [some (.ref pw), some (.ref pr), some (.int at_), some (.ref ph), v4, some (.str t), some (.int (n : Nat)), v7, v8, v9] ∧ Same H2 H' ∧ rdL ws (hs.length - i) (hs.drop n) t n = R ∧ t.length ≤ 20 * i) ⟨"", 0, none, none, none, rfl, Same.refl _, by rw [Nat.sub_zero]; exact eR, by decide⟩ ?_ ?_
    · rintro i σ H3 hi ⟨t, n, v7, v8, v9, rfl, s3, e, ht⟩
      clear k1
      obtain ⟨k, ek⟩ : ∃ k, hs.length - i = k + 1 := ⟨hs.length - i - 1, by omega⟩
      have ek2 : hs.length - (i + 1) = k := by omega
      rw [ek, rdL] at e
      rw [ek2]
      refine seqI fun K1 k1 => ?_
      walk_at "rd"
      refine ⟨pw, ph, ws, hs, n, rfl, s3 _ _ hpw, s3 _ _ h2, h16, lh, by have := ok.lt; omega, fun q1 H4 s4 n4 h4 => k1 _ _ ?_⟩
      clear k1
      have s34 := s3.trans s4
      cases eN : nx fL ws (hs.drop n) with
      | none =>
        rw [eN] at h4 e
        refine seqI fun K1 k1 => ?_
        walk_at "rd"
        refine ⟨_, h4, _, rfl, ?_⟩
        rw [if_pos rfl]
        exact qf _ _ s34 (by rw [← e]; rfl)
      | some y =>
        obtain ⟨z, m⟩ := y
        rw [eN] at h4 e
        obtain ⟨_, _, l20, _, _⟩ := nx_ok fL_ok ok.ok (dr16 h16 n) eN
        dsimp only at e
        have h4 : H4 q1 = some (.tup [.str z, .int (m : Nat)]) := h4
        refine seqI fun K1 k1 => ?_
        walk_at "rd"
        refine ⟨_, h4, _, rfl, ?_⟩
        rw [if_neg (by intro h; cases h)]
        refine k1 _ _ ?_
        clear k1
        refine seqI fun K1 k1 => ?_
        walk_at "rd"
        refine ⟨_, h4, _, rfl, _, rfl, k1 _ _ ?_⟩
        clear k1
        refine seqI fun K1 k1 => ?_
        refine ifI fun A B ka kb => ?_
        walk_at "rd"
        refine ⟨_, h4, _, rfl, rfl, ite_i (fun hz => ka _ ?_) (fun hz => kb _ ?_)⟩
        · have hz := V.str.inj hz
          rw [if_pos hz] at e
          clear ka kb k1
          rw [← e] at qf
          dsimp only at qf
          have eb : ((at_ : Int) + ((n : Int) + (m : Int) + 1) / 2) = ((at_ + (n + m + 1) / 2 : Nat) : Int) := by omega
          refine seqI fun K1 k1 => ?_
          walk_at "rd"
          refine ⟨⟨by decide, by decide⟩, k1 _ _ ?_⟩
          clear k1
          rw [eb]
          have hpw := s34 _ _ hpw
          have hpr := s34 _ _ hpr
          refine seqI fun K1 k1 => ?_
          refine ifI fun A B ka kb => ?_
          walk_at "rd"
          have no : ¬ (t.length ≤ 200 ∧ by2 (half ws t) = (l.drop at_).take ((n + m + 1) / 2)) → ∀ H5, Same H4 H5 → B H5 := by
            intro g H5 s5
            rw [if_neg g] at qf
            refine kb _ ?_
            walk_at "rd"
            refine k1 _ _ ?_
            walk_at "rd"
            exact qf _ _ (s34.trans s5) rfl
          refine ⟨Nat.le_trans (by omega : t.length ≤ 200000) (by decide), ite_i (fun h200 => ?_) (fun h200 => no (fun g => h200 (by omega)) _ (Same.refl _))⟩
          refine ⟨pw, ws, t, rfl, hpw, by omega, fun u1 G1 t1 m1 g1 => ?_⟩
          have lhalf := half_len ws t
          refine ⟨u1, half ws t, rfl, g1, by omega, fun u2 G2 t2 m2 g2 => ?_⟩
          have s5 := s34.trans (t1.trans t2)
          have sG := t1.trans t2
          have hprG := sG _ _ hpr
          refine ⟨_, hprG, fun u3 m3 => ?_⟩
          have t3 := same_new (o := .lst (cutV (mi l) (some (at_ : Int)) (some ((at_ + (n + m + 1) / 2 : Nat) : Int)))) m3
          intro u4 m4
          have t4 := same_new (o := .lst (cutV (mi l) (some (at_ : Int)) (some ((at_ + (n + m + 1) / 2 : Nat) : Int)))) m4
          have sF := (sG.trans t3).trans t4
          refine ⟨_, rfl, _, t4 _ _ (t3 _ _ g2), ?_, ?_, ?_⟩
          · rw [List.all_map]
            exact List.all_eq_true.mpr fun _ _ => rfl
          · rw [cutV_two, mi_drop, mi_take, List.all_map]
            exact List.all_eq_true.mpr fun _ _ => rfl
          generalize upd (upd G2 u3 (.lst (cutV (mi l) (some (at_ : Int)) (some ((at_ + (n + m + 1) / 2 : Nat) : Int))))) u4 (.lst (cutV (mi l) (some (at_ : Int)) (some ((at_ + (n + m + 1) / 2 : Nat) : Int)))) = G4 at sF
          rw [cutV_two, mi_drop, mi_take, Nat.add_sub_cancel_left]
          refine ite_i (fun h7 => ka _ ?_) (fun h7 => no (fun g => h7 (by rw [g.2])) _ sF)
          have h8 : by2 (half ws t) = (l.drop at_).take ((n + m + 1) / 2) := List.map_inj_right (fun a b e => V.int.inj e) |>.mp h7
          rw [if_pos ⟨by omega, h8⟩] at qf
          walk_at "rd"
          refine ⟨by decide, fun u5 m5 => qf _ _ (s34.trans (sF.trans (same_new m5))) ⟨u5, rfl, upd_same⟩⟩
        · have hz : z ≠ "" := fun k => hz (by rw [k])
          rw [if_neg hz] at e
          walk_at "rd"
          refine k1 _ _ ?_
          walk_at "rd"
          refine ⟨_, h4, _, rfl, z, rfl, Nat.le_trans (by omega : _ ≤ 300000) (by decide), n + m, by omega, s34, ?_, ?_⟩
          · rw [← List.drop_drop]
            exact e
          · rw [len_app]
            omega
    rintro σ H3 ⟨t, n, v7, v8, v9, rfl, s3, e, ht⟩
    refine k1 _ _ ?_
    clear k1
    rw [Nat.sub_self] at e
    walk_at "rd"
    exact qf _ _ s3 (by rw [← e]; rfl)
end
section
variable {P : Program} {w : World} {K : PySem.W.Frag} {mg : Str → Option Value} {base : Heap}
theorem ok__law_lot_words (S : Src K mg "_law_lot_words" s__law_lot_words) (T : Tx P K mg) (C__law_pick : Cal P w K mg base CX0 1 "_law_pick" ["_law_bag_here", "_law_many"] spPick) (C__law_word : Cal P w K mg base CX0 2 "_law_word" ["_law_bag_here"] spWordB) (C__law_distinct : Cal P w K mg base CX0 1 "_law_distinct" ["_law_words"] spDist)  : Cal P w K mg base CX0 3 "_law_lot_words" ["_law_bag_here"] spLotWords := by
  refine S.cal sc__law_lot_words bn__law_lot_words (fun vs H Q E h => ?_) (fun f cdv A outer s H vs Q E hr h => ?_)
  · first | (obtain ⟨rfl, _⟩ := h; rfl) | (obtain ⟨_, rfl, _⟩ := h; rfl) | (obtain ⟨_, _, rfl, _⟩ := h; rfl) | (obtain ⟨_, _, _, rfl, _⟩ := h; rfl) | (obtain ⟨_, _, _, _, rfl, _⟩ := h; rfl) | (obtain ⟨_, _, _, _, _, rfl, _⟩ := h; rfl) | (obtain ⟨_, _, _, _, _, _, rfl, _⟩ := h; rfl) | (obtain ⟨_, _, _, _, _, _, _, rfl, _⟩ := h; rfl) | (obtain ⟨_, _, _, _, _, _, _, _, rfl, _⟩ := h; rfl) | (obtain ⟨_, _, _, _, _, _, _, _, _, rfl, _⟩ := h; rfl)
  · skip
    refine ⟨_, (pss_cons (ps_set (i := 1) sc__law_lot_words.nd rfl (Or.inl rfl) (Fx.pe_cal C__law_pick (hr.mono (by decide)) pass0 (Fx.pa_c (pv 0) (Fx.pa_c pe_int pa_nil))))
        (pss_cons (ps_if (pt_cmpR op_eq (Fx.pe_cal C__law_pick (hr.mono (by decide)) pass0 (Fx.pa_c (pv 0) (Fx.pa_c pe_int pa_nil))) pe_int (nomark _)) (pss_one (ps_set (i := 1) sc__law_lot_words.nd rfl (Or.inl rfl) (pe_op op_add pe_int (Fx.pe_cal C__law_pick (hr.mono (by decide)) pass0 (Fx.pa_c (pv 0) (Fx.pa_c pe_int pa_nil)))))) pss_nil)
        (pss_one (ps_ret (Fx.pe_cal C__law_distinct (hr.mono (by decide)) pass0 (Fx.pa_c (pe_lc (own := [("_law_step", 2)]) rfl sc__law_lot_words.nd (pi_range1 rfl T.b_range (Fx.pa_c (pv 1) pa_nil)) (blkOk_by (N := N__law_lot_words) (sc := defScope s__law_lot_words) (by decide +kernel)) (fun _ _ _ _ _ => (pg_name (i := 2) sc__law_lot_words.nd rfl (Or.inl rfl))) (fun _ _ _ _ _ => pts_nil) (fun _ _ _ _ _ => (Fx.pe_cal C__law_word (hr.mono (by decide)) pass0 (Fx.pa_c (pv 0) pa_nil)))) pa_nil)))))), ?_⟩
    obtain ⟨b, rfl, hB, q⟩ := h
    refine seqI fun K1 k1 => ?_
    walk_at "rd"
    refine ⟨b, 6, rfl, hB, by decide, by decide, fun m H1 m0 m1 kp1 => k1 _ _ ?_⟩
    clear k1
    refine seqI fun K1 k1 => ?_
    have go : ∀ (m : Int) (H2 : Hp), 0 ≤ m → m ≤ 16 → Kp b H H2 → K1 [some (V.ref b), some (V.int m), none] H2 := by
      intro m H2 m0 m1 kp2
      refine k1 _ _ ?_
      walk_at "rd"
      refine ⟨_, rfl, m, rfl, by omega, by omega, fun D nD => ?_⟩
      refine lc_range (lo := 0) (n := m.toNat) (fun i H6 => ∃ zs : List Str, zs.length = i ∧ (∀ z ∈ zs, isSW z = true) ∧ H6 D = some (.lst (ms zs)) ∧ Kp b H2 H6) ⟨[], rfl, fun c h => by (cases h), upd_same, Kp.put kp2.bag (Kp.refl kp2.bag) nD⟩ ?_ ?_
      · rintro i H6 hi ⟨zs, hl, hz, hD, kp6⟩
        refine ⟨rfl, ?_⟩
        walk_at "rd"
        refine ⟨b, rfl, kp6.bag, fun z H7 z1 kp7 => ⟨_, kp7.lst kp6.bag hD, ?_, zs ++ [z], ?_, ?_, ?_, Kp.put kp2.bag (kp6.trans kp7) nD⟩⟩
        · rw [List.length_map]
          exact Nat.lt_of_lt_of_le (by omega : _ < 100) (by decide)
        · rw [List.length_append, hl]
          rfl
        · intro y hy
          rcases List.mem_append.mp hy with hy | hy
          · exact hz y hy
          · rw [List.mem_singleton.mp hy]
            exact z1
        · rw [ms, ms, List.map_append]
          rfl
      rintro H6 ⟨zs, hl, hz, hD, kp6⟩
      refine ⟨D, zs, rfl, hD, by omega, fun q1 ys H7 s7 hd n7 h7 => q q1 ys H7 ((kp2.trans kp6).then s7) ((kp2.trans kp6).free n7) h7 ⟨hd.1, hd.2.1, fun z k => hz z ((hd.2.2 z).mp k), ?_⟩⟩
      have := nd_len hd.2.1 fun z k => (hd.2.2 z).mp k
      omega
    refine ifI fun A B ka kb => ?_
    walk_at "rd"
    refine ⟨b, 8, rfl, kp1.bag, by decide, by decide, fun k H2 k0 k9 kp2 => ?_⟩
    refine ⟨rfl, ite_i (fun h1 => ka _ ?_) (fun h1 => kb _ ?_)⟩
    · walk_at "rd"
      refine ⟨b, 3, rfl, kp2.bag, by decide, by decide, fun r H3 r0 r1 kp3 => ⟨_, rfl, go _ _ (by omega) (by omega) ((kp1.trans kp2).trans kp3)⟩⟩
    · walk_at "rd"
      exact go _ _ m0 (by omega) (kp1.trans kp2)
end
section
variable {P : Program} {w : World} {K : PySem.W.Frag} {mg : Str → Option Value} {base : Heap}
theorem ok__law_item (S : Src K mg "_law_item" s__law_item) (T : Tx P K mg) (C__law_pick : Cal P w K mg base CX0 1 "_law_pick" ["_law_bag_here", "_law_many"] spPick) (C__law_codes : Cal P w K mg base CX0 1 "_law_codes" ["_law_sign_here"] spLCodes) (C__law_sign : Cal P w K mg base CX0 3 "_law_sign" ["_law_bag_here"] spSign)  : Cal P w K mg base CX0 4 "_law_item" ["_law_bag_here", "_law_words", "_law_wild"] spItem := by
  refine S.cal sc__law_item bn__law_item (fun vs H Q E h => ?_) (fun f cdv A outer s H vs Q E hr h => ?_)
  · first | (obtain ⟨rfl, _⟩ := h; rfl) | (obtain ⟨_, rfl, _⟩ := h; rfl) | (obtain ⟨_, _, rfl, _⟩ := h; rfl) | (obtain ⟨_, _, _, rfl, _⟩ := h; rfl) | (obtain ⟨_, _, _, _, rfl, _⟩ := h; rfl) | (obtain ⟨_, _, _, _, _, rfl, _⟩ := h; rfl) | (obtain ⟨_, _, _, _, _, _, rfl, _⟩ := h; rfl) | (obtain ⟨_, _, _, _, _, _, _, rfl, _⟩ := h; rfl) | (obtain ⟨_, _, _, _, _, _, _, _, rfl, _⟩ := h; rfl) | (obtain ⟨_, _, _, _, _, _, _, _, _, rfl, _⟩ := h; rfl)
  · skip
    refine ⟨_, (pss_cons (ps_set (i := 3) sc__law_item.nd rfl (Or.inl rfl) (pe_ix Fx.ix_L (pe_lst (Fx.pa_c pe_int (Fx.pa_c pe_int (Fx.pa_c pe_int (Fx.pa_c pe_int pa_nil))))) (Fx.pe_cal C__law_pick (hr.mono (by decide)) pass0 (Fx.pa_c (pv 0) (Fx.pa_c pe_int pa_nil))) (fun _ _ => rfl)))
        (pss_cons (ps_if (pt_val (pv 2)) (pss_one (ps_set (i := 3) sc__law_item.nd rfl (Or.inl rfl) (Fx.pe_cal C__law_pick (hr.mono (by decide)) pass0 (Fx.pa_c (pv 0) (Fx.pa_c pe_int pa_nil))))) pss_nil)
        (pss_cons (ps_if (pt_cmpR op_eq (pv 3) pe_int (nomark _)) (pss_one (ps_ret (pe_lst (Fx.pa_c pe_int pa_nil)))) pss_nil)
        (pss_cons (ps_if (pt_cmpR op_eq (pv 3) pe_int (nomark _)) (pss_one (ps_ret (pe_lst (Fx.pa_c pe_int (Fx.pa_c (Fx.pe_cal C__law_pick (hr.mono (by decide)) pass0 (Fx.pa_c (pv 0) (Fx.pa_c pe_int pa_nil))) pa_nil))))) pss_nil)
        (pss_cons (ps_if (PW.pt (pw_and (pt_cmpR op_eq (pv 3) pe_int (nomark _)) (pw_and1 (pt_truth (pv 1) (by intro _; rfl))))) (pss_one (ps_ret (pe_lst (Fx.pa_c pe_int (Fx.pa_c pe_int (Fx.pa_c (Fx.pe_cal C__law_pick (hr.mono (by decide)) pass0 (Fx.pa_c (pv 0) (Fx.pa_c (Fx.pe_cB Fx.len_L T.b_len (by decide +kernel) (Fx.pa_c (pv 1) pa_nil)) pa_nil))) (Fx.pa_c pe_int pa_nil))))))) pss_nil)
        (pss_cons (ps_if (PW.pt (pw_and (pt_cmpR op_eq (pv 3) pe_int (nomark _)) (pw_and1 (pt_truth (pv 1) (by intro _; rfl))))) (pss_cons (ps_set (i := 4) sc__law_item.nd rfl (Or.inl rfl) (pe_lst pa_nil))
        (pss_cons (ps_for PassesOwn.never rfl (pi_str (pe_ix Fx.ix_L (pv 1) (Fx.pe_cal C__law_pick (hr.mono (by decide)) pass0 (Fx.pa_c (pv 0) (Fx.pa_c (Fx.pe_cB Fx.len_L T.b_len (by decide +kernel) (Fx.pa_c (pv 1) pa_nil)) pa_nil))) (fun _ _ => rfl))) (pg_name (i := 5) sc__law_item.nd rfl (Or.inl rfl)) (pss_one (ps_expr (pe_bm PySem.F.plainAttrs_list PySem.F.slot_list_extend PySem.F.type_list_extend mt_extend (pv 4) (Fx.pa_c (Fx.pe_cal C__law_codes (hr.mono (by decide)) pass0 (Fx.pa_c (pv 5) pa_nil)) pa_nil)))))
        (pss_one (ps_ret (pe_op op_cat (pe_slice Fx.sl_L (pe_lst (Fx.pa_c pe_int pa_nil)) (po_some (Fx.pe_cal C__law_pick (hr.mono (by decide)) pass0 (Fx.pa_c (pv 0) (Fx.pa_c pe_int pa_nil)))) po_none) (pv 4)))))) pss_nil)
        (pss_cons (ps_if (pt_cmpR op_eq (pv 3) pe_int (nomark _)) (pss_one (ps_ret (pe_lst (Fx.pa_c pe_int (Fx.pa_c (Fx.pe_cal C__law_pick (hr.mono (by decide)) pass0 (Fx.pa_c (pv 0) (Fx.pa_c pe_int pa_nil))) (Fx.pa_c (Fx.pe_cal C__law_pick (hr.mono (by decide)) pass0 (Fx.pa_c (pv 0) (Fx.pa_c pe_int pa_nil))) pa_nil)))))) pss_nil)
        (pss_cons (ps_if (pt_cmpR op_eq (pv 3) pe_int (nomark _)) (pss_one (ps_ret (pe_lst (Fx.pa_c (Fx.pe_cal C__law_pick (hr.mono (by decide)) pass0 (Fx.pa_c (pv 0) (Fx.pa_c pe_int pa_nil))) pa_nil)))) pss_nil)
        (pss_one (ps_ret (Fx.pe_cal C__law_codes (hr.mono (by decide)) pass0 (Fx.pa_c (Fx.pe_cal C__law_sign (hr.mono (by decide)) pass0 (Fx.pa_c (pv 0) pa_nil)) pa_nil)))))))))))), ?_⟩
    obtain ⟨b, pw, ws, c, rfl, hB, hpw, ok, q⟩ := h
    have hpw0 := hpw
    have hB0 := hB
    refine seqI fun K1 k1 => ?_
    walk_at "rd"
    refine ⟨by decide, ?_⟩
    have kp0 := Kp.refl hB
    intro p n1
    generalize e_p : upd H p _ = H1
    have s1 := new_s n1 e_p
    have h1 := new_h e_p
    clear e_p
    try (first | replace hB := s1 _ _ hB | replace hB := hB.same s1 | replace hB := hB.then s1 | replace hB := hB.trans s1)
    try (first | replace hpw := s1 _ _ hpw | replace hpw := hpw.same s1 | replace hpw := hpw.then s1 | replace hpw := hpw.trans s1)
    try (first | replace kp0 := s1 _ _ kp0 | replace kp0 := kp0.same s1 | replace kp0 := kp0.then s1 | replace kp0 := kp0.trans s1)
    refine ⟨b, 4, rfl, hB, by decide, by decide, fun k H2 k0 k4 kp2 => ⟨_, rfl, ?_⟩⟩
    try (first | replace hpw := Kp.lst kp2 hB hpw | replace hpw := Kp.tup kp2 hB hpw | replace hpw := Kp.ins kp2 hB hpw | replace hpw := hpw.kp hB kp2 | replace hpw := Kp.trans hpw kp2)
    try (first | replace kp0 := Kp.lst kp2 hB kp0 | replace kp0 := Kp.tup kp2 hB kp0 | replace kp0 := Kp.ins kp2 hB kp0 | replace kp0 := kp0.kp hB kp2 | replace kp0 := Kp.trans kp0 kp2)
    try (first | replace h1 := Kp.lst kp2 hB h1 | replace h1 := Kp.tup kp2 hB h1 | replace h1 := Kp.ins kp2 hB h1 | replace h1 := h1.kp hB kp2 | replace h1 := Kp.trans h1 kp2)
    replace hB := Kp.bag kp2
    obtain ⟨kv, ek⟩ : ∃ kv : Int, atI [V.int 0, V.int 2, V.int 6, V.int 7] k = some (.int kv) := by
      rcases (by omega : k = 0 ∨ k = 1 ∨ k = 2 ∨ k = 3) with rfl | rfl | rfl | rfl
      · exact ⟨_, rfl⟩
      · exact ⟨_, rfl⟩
      · exact ⟨_, rfl⟩
      · exact ⟨_, rfl⟩
    refine ⟨_, h1, _, ek, k1 _ _ ?_⟩
    clear k1 ek h1 k0 k4
    refine seqI fun K1 k1 => ?_
    have setk : ∀ (kv : Int) (H3 : Hp), Kp b H H3 → H3 pw = some (.lst (ms ws)) → K1 [some (V.ref b), some (V.ref pw), some (V.bl c), some (V.int kv), none, none] H3 := by
      intro kv H3 kp3 hpw
      have hB := kp3.bag
      refine k1 _ _ ?_
      clear k1
      have ret : ∀ (l : List Int) (H4 : Hp) (q1 : Addr), Kp b H H4 → H4 q1 = none → NbOk l → l.length ≤ 100 → Q (.ref q1) (upd H4 q1 (.lst (mi l))) := fun l H4 q1 kp4 n4 hn hl => q q1 l _ (kp4.then (same_new n4)) (kp4.free n4) upd_same hn hl
      refine seqI fun K1 k1 => ?_
      walk_at "rd"
      refine ite_i (fun e => ⟨by decide, fun q1 n1 => ret [0] _ q1 kp3 n1 (fun x hx => by rw [List.mem_singleton.mp hx]; decide) (by decide)⟩) (fun e => k1 _ _ ?_)
      clear k1
      refine seqI fun K1 k1 => ?_
      refine ifI fun A B ka kb => ?_
      walk_at "rd"
      refine ite_i (fun e => ka _ ?_) (fun e => kb _ ?_)
      · walk_at "rd"
        refine ⟨b, 16, rfl, hB, by decide, by decide, fun y H4 y0 y1 kp4 => ⟨by decide, fun q1 n1 => ret [14, y] _ q1 (kp3.trans kp4) n1 (fun x hx => ?_) (show 2 ≤ 100 by decide)⟩⟩
        simp only [List.mem_cons, List.not_mem_nil, or_false] at hx
        rcases hx with rfl | rfl <;> omega
      walk_at "rd"
      refine k1 _ _ ?_
      clear ka kb k1
      have lw : ((ms ws).length : Int) = ws.length := by rw [List.length_map]
      have lt := ok.lt
      have emp : ¬ (!(ms ws).isEmpty) = true → ws = [] := fun h => by
        cases ws with
        | nil => rfl
        | cons a b => exact absurd rfl h
      have pos : (!(ms ws).isEmpty) = true → 0 < ws.length := fun h => by
        cases ws with
        | nil => exact absurd h (by decide)
        | cons a b => exact Nat.succ_pos _
      refine seqI fun K1 k1 => ?_
      refine ifI fun A B ka kb => ?_
      walk_at "rd"
      have cont : B H3 := by
        refine kb _ ?_
        walk_at "rd"
        refine k1 _ _ ?_
        clear ka kb k1
        refine seqI fun K1 k1 => ?_
        refine ifI fun A B ka kb => ?_
        walk_at "rd"
        have cont : B H3 := by
          refine kb _ ?_
          walk_at "rd"
          refine k1 _ _ ?_
          clear ka kb k1
          refine seqI fun K1 k1 => ?_
          refine ifI fun A B ka kb => ?_
          walk_at "rd"
          refine ite_i (fun e => ka _ ?_) (fun e => kb _ ?_)
          · walk_at "rd"
            refine ⟨b, 16, rfl, hB, by decide, by decide, fun y H4 y0 y1 kp4 => ⟨b, 16, rfl, kp4.bag, by decide, by decide, fun y2 H5 y20 y21 kp5 => ⟨by decide, fun q1 n1 => ret [15, y, y2] _ q1 ((kp3.trans kp4).trans kp5) n1 (fun x hx => ?_) (show 3 ≤ 100 by decide)⟩⟩⟩
            simp only [List.mem_cons, List.not_mem_nil, or_false] at hx
            rcases hx with rfl | rfl | rfl <;> omega
          walk_at "rd"
          refine k1 _ _ ?_
          clear ka kb k1
          refine seqI fun K1 k1 => ?_
          refine ifI fun A B ka kb => ?_
          walk_at "rd"
          refine ite_i (fun e => ka _ ?_) (fun e => kb _ ?_)
          · walk_at "rd"
            refine ⟨b, 16, rfl, hB, by decide, by decide, fun y H4 y0 y1 kp4 => ⟨by decide, fun q1 n1 => ret [y] _ q1 (kp3.trans kp4) n1 (fun x hx => ?_) (show 1 ≤ 100 by decide)⟩⟩
            rw [List.mem_singleton.mp hx]
            exact ⟨y0, y1⟩
          walk_at "rd"
          refine k1 _ _ ?_
          walk_at "rd"
          refine ⟨b, rfl, hB, fun d H4 hd kp4 => ⟨d, rfl, fun q1 H5 s5 n5 h5 => q q1 (codeL d) H5 ((kp3.trans kp4).then s5) ((kp3.trans kp4).free n5) h5 (code_16 (signs_sub d hd)) ?_⟩⟩
          have := codeL_len d
          omega
        refine ite_i (fun e => ⟨_, .inl ⟨_, .inl (.inl hpw), rfl⟩, ite_i (fun e => ka _ ?_) (fun _ => cont)⟩) (fun _ => cont)
        have p0 := pos e
        clear ka kb k1 cont
        refine seqI fun K1 k1 => ?_
        walk_at "rd"
        refine ⟨by decide, ?_⟩
        have kp := kp3
        have nr0 := fun (pr : Addr) (n : H3 pr = none) => kp3.free n
        intro pr nr
        generalize e_pr : upd H3 pr _ = H4
        have s4 := new_s nr e_pr
        have hr := new_h e_pr
        clear e_pr
        try (first | replace kp := s4 _ _ kp | replace kp := kp.same s4 | replace kp := kp.then s4 | replace kp := kp.trans s4)
        try (first | replace hpw := s4 _ _ hpw | replace hpw := hpw.same s4 | replace hpw := hpw.then s4 | replace hpw := hpw.trans s4)
        try (first | replace hB := s4 _ _ hB | replace hB := hB.same s4 | replace hB := hB.then s4 | replace hB := hB.trans s4)
        replace nr0 := nr0 pr nr
        refine k1 _ _ ?_
        clear k1
        refine seqI fun K1 k1 => ?_
        refine forI fun R kR => ?_
        walk_at "rd"
        refine ⟨_, hpw, b, _, rfl, hB, by omega, by omega, fun y H5 y0 y1 kp5 => ?_⟩
        try (first | replace kp := Kp.lst kp5 hB kp | replace kp := Kp.tup kp5 hB kp | replace kp := Kp.ins kp5 hB kp | replace kp := kp.kp hB kp5 | replace kp := Kp.trans kp kp5)
        try (first | replace hpw := Kp.lst kp5 hB hpw | replace hpw := Kp.tup kp5 hB hpw | replace hpw := Kp.ins kp5 hB hpw | replace hpw := hpw.kp hB kp5 | replace hpw := Kp.trans hpw kp5)
        try (first | replace hr := Kp.lst kp5 hB hr | replace hr := Kp.tup kp5 hB hr | replace hr := Kp.ins kp5 hB hr | replace hr := hr.kp hB kp5 | replace hr := Kp.trans hr kp5)
        replace hB := Kp.bag kp5
        obtain ⟨yn, rfl⟩ : ∃ m : Nat, y = (m : Int) := ⟨y.toNat, by omega⟩
        have hy : yn < ws.length := by omega
        have hz := ok.ok _ (List.getElem_mem hy)
        have lz := isSW_len hz
        refine ⟨_, rfl, _, hpw, _, atI_get (xs := ms ws) (i := yn) (by rw [List.getElem?_map, List.getElem?_eq_getElem hy]; rfl), ws[yn], rfl, kR _ _ ?_⟩
        clear kR
        generalize ws[yn] = z at hz lz
        refine for_S (z := z) (fun i σ H' => ∃ v5, σ = [some (.ref b), some (.ref pw), some (.bl c), some (.int kv), some (.ref pr), v5] ∧ H' pr = some (.lst (mi ((z.cps.toList.take i).map codeL).flatten)) ∧ Kp b H H') ⟨none, rfl, hr, kp⟩ ?_ ?_
        · rintro i d σ H6 hd ⟨v5, rfl, h6, kp6⟩
          clear k1
          walk_at "rd"
          refine ⟨tyL h6, d, rfl, fun p7 H7 s7 n7 h7 => ⟨p7, rfl, _, s7 _ _ h6, _, h7, ?_, ?_, Kp.put hB0 (kp6.then s7) nr0⟩⟩
          · have l1 := flat_len (z.cps.toList.take i)
            have l2 := codeL_len d
            have l3 : (z.cps.toList.take i).length ≤ 20 := by
              rw [List.length_take]
              have : z.cps.toList.length = z.length := Array.length_toList
              omega
            rw [mi_len, List.length_map]
            exact sz (by omega)
          · rw [List.take_add_one, hd]
            simp
        · rintro σ H6 ⟨v5, rfl, h6, kp6⟩
          refine k1 _ _ ?_
          clear k1
          rw [List.take_of_length_le (Nat.le_refl _)] at h6
          have lc := clist_len z
          have oc : NbOk (clist z) := fun x hx => by
            unfold clist at hx
            obtain ⟨m, hm, hx⟩ := List.mem_flatten.mp hx
            obtain ⟨c, hc, rfl⟩ := List.mem_map.mp hm
            exact code_16 (signs_sub c (let_sign c (isSW_mem hz c hc))) x hx
          replace h6 : H6 pr = some (.lst (mi (clist z))) := h6
          have hB := kp6.bag
          have kp := kp6
          walk_at "rd"
          refine ⟨by decide, ?_⟩
          intro u1 m1
          generalize e_u1 : upd H6 u1 _ = G1
          have t1 := new_s m1 e_u1
          have g1 := new_h e_u1
          clear e_u1
          try (first | replace kp := t1 _ _ kp | replace kp := kp.same t1 | replace kp := kp.then t1 | replace kp := kp.trans t1)
          try (first | replace h6 := t1 _ _ h6 | replace h6 := h6.same t1 | replace h6 := h6.then t1 | replace h6 := h6.trans t1)
          try (first | replace hB := t1 _ _ hB | replace hB := hB.same t1 | replace hB := hB.then t1 | replace hB := hB.trans t1)
          refine ⟨b, 2, rfl, hB, by decide, by decide, fun y G2 y0 y1 kp2 => ⟨_, rfl, ?_⟩⟩
          try (first | replace kp := Kp.lst kp2 hB kp | replace kp := Kp.tup kp2 hB kp | replace kp := Kp.ins kp2 hB kp | replace kp := kp.kp hB kp2 | replace kp := Kp.trans kp kp2)
          try (first | replace h6 := Kp.lst kp2 hB h6 | replace h6 := Kp.tup kp2 hB h6 | replace h6 := Kp.ins kp2 hB h6 | replace h6 := h6.kp hB kp2 | replace h6 := Kp.trans h6 kp2)
          try (first | replace g1 := Kp.lst kp2 hB g1 | replace g1 := Kp.tup kp2 hB g1 | replace g1 := Kp.ins kp2 hB g1 | replace g1 := g1.kp hB kp2 | replace g1 := Kp.trans g1 kp2)
          replace hB := Kp.bag kp2
          refine ⟨_, g1, ?_⟩
          intro u2 m2
          generalize e_u2 : upd G2 u2 _ = G3
          have t3 := new_s m2 e_u2
          have g3 := new_h e_u2
          clear e_u2
          try (first | replace kp := t3 _ _ kp | replace kp := kp.same t3 | replace kp := kp.then t3 | replace kp := kp.trans t3)
          try (first | replace h6 := t3 _ _ h6 | replace h6 := h6.same t3 | replace h6 := h6.then t3 | replace h6 := h6.trans t3)
          try (first | replace hB := t3 _ _ hB | replace hB := hB.same t3 | replace hB := hB.then t3 | replace hB := hB.trans t3)
          try (first | replace g1 := t3 _ _ g1 | replace g1 := g1.same t3 | replace g1 := g1.then t3 | replace g1 := g1.trans t3)
          obtain ⟨yn, rfl⟩ : ∃ m : Nat, y = (m : Int) := ⟨y.toNat, by omega⟩
          refine ⟨_, h6, ?_, ?_⟩
          · rw [cutV_lo, List.length_drop, mi_len]
            exact sz (show 1 - yn + _ ≤ _ by omega)
          intro u4 m4
          rw [cutV_lo, show [V.int 0] = mi [0] from rfl, mi_drop, ← mi_app]
          refine ret ([0].drop yn ++ clist z) G3 u4 kp m4 (fun x hx => ?_) ?_
          · rcases List.mem_append.mp hx with hx | hx
            · rw [List.mem_singleton.mp (List.mem_of_mem_drop hx)]
              decide
            · exact oc x hx
          · rw [List.length_append, List.length_drop]
            show 1 - yn + _ ≤ _
            omega
      refine ite_i (fun e => ⟨_, .inl ⟨_, .inl (.inl hpw), rfl⟩, ite_i (fun e => ka _ ?_) (fun _ => cont)⟩) (fun _ => cont)
      have p0 := pos e
      walk_at "rd"
      refine ⟨_, hpw, b, _, rfl, hB, by omega, by omega, fun y H4 y0 y1 kp4 => ⟨by decide, fun q1 n1 => ret [0, 14, y, 0] _ q1 (kp3.trans kp4) n1 (fun x hx => ?_) (show 4 ≤ 100 by decide)⟩⟩
      rw [lw] at y1
      simp only [List.mem_cons, List.not_mem_nil, or_false] at hx
      rcases hx with rfl | rfl | rfl | rfl <;> omega
    refine ifI fun A B ka kb => ?_
    walk_at "rd"
    refine ite_i (fun hc => ka _ ?_) (fun hc => kb _ ?_)
    · walk_at "rd"
      refine ⟨b, 8, rfl, hB, by decide, by decide, fun r H3 r0 r1 kp3 => setk _ _ (kp0.trans kp3) (kp3.lst hB hpw)⟩
    · walk_at "rd"
      exact setk _ _ kp0 hpw
end
section
variable {P : Program} {w : World} {K : PySem.W.Frag} {mg : Str → Option Value} {base : Heap}
theorem ok__law_row (S : Src K mg "_law_row" s__law_row) (T : Tx P K mg) (C__law_pick : Cal P w K mg base CX0 1 "_law_pick" ["_law_bag_here", "_law_many"] spPick) (C__law_item : Cal P w K mg base CX0 4 "_law_item" ["_law_bag_here", "_law_words", "_law_wild"] spItem) (C__law_bytes : Cal P w K mg base CX0 1 "_law_bytes" ["_law_halves_here"] spBytes) (C__law_read : Cal P w K mg base CX0 3 "_law_read" ["_law_words", "_law_row_here", "_law_at"] spReadL)  : Cal P w K mg base CX0 5 "_law_row" ["_law_bag_here", "_law_words"] spRowB := by
  refine S.cal sc__law_row bn__law_row (fun vs H Q E h => ?_) (fun f cdv A outer s H vs Q E hr h => ?_)
  · first | (obtain ⟨rfl, _⟩ := h; rfl) | (obtain ⟨_, rfl, _⟩ := h; rfl) | (obtain ⟨_, _, rfl, _⟩ := h; rfl) | (obtain ⟨_, _, _, rfl, _⟩ := h; rfl) | (obtain ⟨_, _, _, _, rfl, _⟩ := h; rfl) | (obtain ⟨_, _, _, _, _, rfl, _⟩ := h; rfl) | (obtain ⟨_, _, _, _, _, _, rfl, _⟩ := h; rfl) | (obtain ⟨_, _, _, _, _, _, _, rfl, _⟩ := h; rfl) | (obtain ⟨_, _, _, _, _, _, _, _, rfl, _⟩ := h; rfl) | (obtain ⟨_, _, _, _, _, _, _, _, _, rfl, _⟩ := h; rfl)
  · skip
    refine ⟨_, (pss_cons (ps_set (i := 2) sc__law_row.nd rfl (Or.inl rfl) (pe_lst pa_nil))
        (pss_cons (ps_set (i := 3) sc__law_row.nd rfl (Or.inl rfl) (pe_cmpR op_eq (Fx.pe_cal C__law_pick (hr.mono (by decide)) pass0 (Fx.pa_c (pv 0) (Fx.pa_c pe_int pa_nil))) pe_int (nomark _)))
        (pss_cons (ps_for PassesOwn.never rfl (pi_range1 rfl T.b_range (Fx.pa_c (Fx.pe_cal C__law_pick (hr.mono (by decide)) pass0 (Fx.pa_c (pv 0) (Fx.pa_c pe_int pa_nil))) pa_nil)) (pg_name (i := 4) sc__law_row.nd rfl (Or.inl rfl)) (pss_one (ps_expr (pe_bm PySem.F.plainAttrs_list PySem.F.slot_list_extend PySem.F.type_list_extend mt_extend (pv 2) (Fx.pa_c (Fx.pe_cal C__law_item (hr.mono (by decide)) pass0 (Fx.pa_c (pv 0) (Fx.pa_c (pv 1) (Fx.pa_c (pv 3) pa_nil)))) pa_nil)))))
        (pss_cons (ps_if (pt_cmpR op_eq (Fx.pe_cal C__law_pick (hr.mono (by decide)) pass0 (Fx.pa_c (pv 0) (Fx.pa_c pe_int pa_nil))) pe_int (nomark _)) (pss_cons (ps_set (i := 5) sc__law_row.nd rfl (Or.inl rfl) (Fx.pe_cal C__law_read (hr.mono (by decide)) pass0 (Fx.pa_c (pv 1) (Fx.pa_c (Fx.pe_cal C__law_bytes (hr.mono (by decide)) pass0 (Fx.pa_c (pe_op op_cat (pv 2) (pe_lst (Fx.pa_c pe_int (Fx.pa_c pe_int (Fx.pa_c pe_int pa_nil))))) pa_nil)) (Fx.pa_c pe_int pa_nil)))))
        (pss_cons (ps_set (i := 6) sc__law_row.nd rfl (Or.inl rfl) (Fx.pe_cal C__law_pick (hr.mono (by decide)) pass0 (Fx.pa_c (pv 0) (Fx.pa_c pe_int pa_nil))))
        (pss_cons (ps_set (i := 7) sc__law_row.nd rfl (Or.inl rfl) (pe_ix Fx.ix_L (pe_lst (Fx.pa_c pe_int (Fx.pa_c pe_int (Fx.pa_c pe_int (Fx.pa_c pe_int (Fx.pa_c pe_int pa_nil)))))) (Fx.pe_cal C__law_pick (hr.mono (by decide)) pass0 (Fx.pa_c (pv 0) (Fx.pa_c pe_int pa_nil))) (fun _ _ => rfl)))
        (pss_one (ps_if (pt_cmpR op_notNon (pv 5) pe_non (nomark _)) (pss_one (ps_set (i := 2) sc__law_row.nd rfl (Or.inl rfl) (pe_op op_cat (pe_op op_cat (pe_op op_rep (pe_lst (Fx.pa_c (pv 6) pa_nil)) (Fx.pe_cB (call_max2 rfl) T.b_max (by decide +kernel) (Fx.pa_c pe_int (Fx.pa_c (pe_op op_sub (pv 7) (Fx.pe_cB Fx.len_S T.b_len (by decide +kernel) (Fx.pa_c (pe_ix Fx.ix_T (pv 5) pe_int (fun _ _ => rfl)) pa_nil))) pa_nil)))) (pe_lst (Fx.pa_c pe_int pa_nil))) (pv 2)))) pss_nil))))) pss_nil)
        (pss_cons (ps_if (pt_cmpR op_ne (Fx.pe_cal C__law_pick (hr.mono (by decide)) pass0 (Fx.pa_c (pv 0) (Fx.pa_c pe_int pa_nil))) pe_int (nomark _)) (pss_one (ps_expr (pe_bm PySem.F.plainAttrs_list PySem.F.slot_list_extend PySem.F.type_list_extend mt_extend (pv 2) (Fx.pa_c (pe_lst (Fx.pa_c pe_int (Fx.pa_c pe_int (Fx.pa_c pe_int pa_nil)))) pa_nil)))) pss_nil)
        (pss_cons (ps_if (pt_cmpR op_eq (pe_op op_mod (Fx.pe_cB Fx.len_L T.b_len (by decide +kernel) (Fx.pa_c (pv 2) pa_nil)) pe_int) pe_int (nomark _)) (pss_one (ps_expr (pe_bm PySem.F.plainAttrs_list PySem.F.slot_list_append PySem.F.type_list_append mt_append (pv 2) (Fx.pa_c (pe_ix Fx.ix_L (pe_lst (Fx.pa_c pe_int (Fx.pa_c pe_int (Fx.pa_c pe_int (Fx.pa_c (Fx.pe_cal C__law_pick (hr.mono (by decide)) pass0 (Fx.pa_c (pv 0) (Fx.pa_c pe_int pa_nil))) pa_nil))))) (Fx.pe_cal C__law_pick (hr.mono (by decide)) pass0 (Fx.pa_c (pv 0) (Fx.pa_c pe_int pa_nil))) (fun _ _ => rfl)) pa_nil)))) pss_nil)
        (pss_one (ps_ret (Fx.pe_cal C__law_bytes (hr.mono (by decide)) pass0 (Fx.pa_c (pv 2) pa_nil)))))))))), ?_⟩
    obtain ⟨b, pw, ws, rfl, hB, hpw, ok, q⟩ := h
    have hB0 := hB
    have hpw0 := hpw
    refine seqI fun K1 k1 => ?_
    walk_at "rd"
    refine ⟨by decide, ?_⟩
    have kp := Kp.refl hB
    intro pr nr
    generalize e_pr : upd H pr _ = H1
    have s1 := new_s nr e_pr
    have hr := new_h e_pr
    clear e_pr
    try (first | replace hB := s1 _ _ hB | replace hB := hB.same s1 | replace hB := hB.then s1 | replace hB := hB.trans s1)
    try (first | replace hpw := s1 _ _ hpw | replace hpw := hpw.same s1 | replace hpw := hpw.then s1 | replace hpw := hpw.trans s1)
    try (first | replace kp := s1 _ _ kp | replace kp := kp.same s1 | replace kp := kp.then s1 | replace kp := kp.trans s1)
    refine k1 _ _ ?_
    clear k1
    refine seqI fun K1 k1 => ?_
    walk_at "rd"
    refine ⟨b, 2, rfl, hB, by decide, by decide, fun w H2 w0 w1 kp2 => ⟨rfl, k1 _ _ ?_⟩⟩
    clear k1
    generalize decide (V.int w = V.int 1) = wild
    try (first | replace hpw := Kp.lst kp2 hB hpw | replace hpw := Kp.tup kp2 hB hpw | replace hpw := Kp.ins kp2 hB hpw | replace hpw := hpw.kp hB kp2 | replace hpw := Kp.trans hpw kp2)
    try (first | replace kp := Kp.lst kp2 hB kp | replace kp := Kp.tup kp2 hB kp | replace kp := Kp.ins kp2 hB kp | replace kp := kp.kp hB kp2 | replace kp := Kp.trans kp kp2)
    try (first | replace hr := Kp.lst kp2 hB hr | replace hr := Kp.tup kp2 hB hr | replace hr := Kp.ins kp2 hB hr | replace hr := hr.kp hB kp2 | replace hr := Kp.trans hr kp2)
    try (first | replace hr := Kp.lst kp2 hB hr | replace hr := Kp.tup kp2 hB hr | replace hr := Kp.ins kp2 hB hr | replace hr := hr.kp hB kp2 | replace hr := Kp.trans hr kp2)
    replace hB := Kp.bag kp2
    refine seqI fun K1 k1 => ?_
    refine forI fun R kR => ?_
    walk_at "rd"
    refine ⟨b, 13, rfl, hB, by decide, by decide, fun m H3 m0 m1 kp3 => ⟨m, rfl, by omega, by omega, kR _ _ ?_⟩⟩
    clear kR
    try (first | replace hpw := Kp.lst kp3 hB hpw | replace hpw := Kp.tup kp3 hB hpw | replace hpw := Kp.ins kp3 hB hpw | replace hpw := hpw.kp hB kp3 | replace hpw := Kp.trans hpw kp3)
    try (first | replace kp := Kp.lst kp3 hB kp | replace kp := Kp.tup kp3 hB kp | replace kp := Kp.ins kp3 hB kp | replace kp := kp.kp hB kp3 | replace kp := Kp.trans kp kp3)
    try (first | replace hr := Kp.lst kp3 hB hr | replace hr := Kp.tup kp3 hB hr | replace hr := Kp.ins kp3 hB hr | replace hr := hr.kp hB kp3 | replace hr := Kp.trans hr kp3)
    try (first | replace hr := Kp.lst kp3 hB hr | replace hr := Kp.tup kp3 hB hr | replace hr := Kp.ins kp3 hB hr | replace hr := hr.kp hB kp3 | replace hr := Kp.trans hr kp3)
    replace hB := Kp.bag kp3
    refine for_range (lo := 0) (n := m.toNat) (fun i σ H' => ∃ (l : List Int) (v4 : Option V), σ = [some (.ref b), some (.ref pw), some (.ref pr), some (.bl wild), v4, none, none, none] ∧ H' pr = some (.lst (mi l)) ∧ NbOk l ∧ l.length ≤ 100 * i ∧ Kp b H H') ⟨[], none, rfl, hr, fun x hx => (by cases hx), by decide, kp⟩ ?_ ?_
    · rintro i σ H4 hi ⟨l, v4, rfl, hr, hl, hn, kp⟩
      clear k1
      have hB4 := kp.bag
      have hpw4 := kp.lst hB0 hpw0
      walk_at "rd"
      refine ⟨tyL hr, b, pw, ws, wild, rfl, hB4, hpw4, ok, fun q1 l1 H5 kp5 n5 h5 o1 n1 => ⟨q1, rfl, _, kp5.lst hB4 hr, _, h5, ?_, l ++ l1, (mi_app _ _).symm, hl.app o1, ?_, Kp.put hB0 (kp.trans kp5) nr⟩⟩
      · rw [mi_len, mi_len]
        exact sz (by omega)
      · rw [List.length_append]
        omega
    rintro σ H4 ⟨l, v4, rfl, hr, hl, hn, kp⟩
    refine k1 _ _ ?_
    clear k1
    have hB := kp.bag
    have hpw := kp.lst hB0 hpw0
    replace hn : l.length ≤ 1200 := by omega
    have nrb : pr ≠ b := kp.none_ne hB0 nr
    refine seqI fun K1 k1 => ?_
    have fin : ∀ (p1 : Addr) (l1 : List Int) (v4 v5 v6 v7 : Option V) (H5 : Hp), H p1 = none → H5 p1 = some (.lst (mi l1)) → NbOk l1 → l1.length ≤ 1500 → Kp b H H5 → K1 [some (.ref b), some (.ref pw), some (.ref p1), some (.bl wild), v4, v5, v6, v7] H5 := by
      intro p1 l1 v4 v5 v6 v7 H5 n1 h1 o1 m1 kp
      refine k1 _ _ ?_
      clear k1 hB
      refine seqI fun K1 k1 => ?_
      have last : ∀ (l2 : List Int) (H6 : Hp), H6 p1 = some (.lst (mi l2)) → NbOk l2 → l2.length ≤ 1600 → Kp b H H6 → K1 [some (.ref b), some (.ref pw), some (.ref p1), some (.bl wild), v4, v5, v6, v7] H6 := by
        intro l2 H6 h6 o2 m2 kp
        refine k1 _ _ ?_
        clear k1
        refine seqI fun K1 k1 => ?_
        have done_ : ∀ (l3 : List Int) (H7 : Hp), H7 p1 = some (.lst (mi l3)) → NbOk l3 → l3.length ≤ 1700 → Kp b H H7 → K1 [some (.ref b), some (.ref pw), some (.ref p1), some (.bl wild), v4, v5, v6, v7] H7 := by
          intro l3 H7 h7 o3 m3 kp
          refine k1 _ _ ?_
          walk_at "rd"
          refine ⟨p1, l3, rfl, h7, by omega, fun q1 H8 s8 n8 h8 => q q1 (by2 l3) H8 (kp.then s8) (kp.free n8) h8 (by2_ok o3) ?_⟩
          rw [by2_len]
          omega
        refine ifI fun A B ka kb => ?_
        walk_at "rd"
        refine ⟨_, h6, by decide, ite_i (fun _ => ka _ ?_) (fun _ => kb _ ?_)⟩
        · have hB := kp.bag
          walk_at "rd"
          refine ⟨tyL h6, b, 16, rfl, hB, by decide, by decide, fun y H7 y0 y1 kp7 => ⟨by decide, ?_⟩⟩
          have kp' := kp.trans kp7
          have h7 := kp7.lst hB h6
          have hB' := kp7.bag
          intro u1 m1
          generalize e_u1 : upd H7 u1 _ = H8
          have s8 := new_s m1 e_u1
          have h8 := new_h e_u1
          clear e_u1
          try (first | replace kp' := s8 _ _ kp' | replace kp' := kp'.same s8 | replace kp' := kp'.then s8 | replace kp' := kp'.trans s8)
          try (first | replace h7 := s8 _ _ h7 | replace h7 := h7.same s8 | replace h7 := h7.then s8 | replace h7 := h7.trans s8)
          try (first | replace hB' := s8 _ _ hB' | replace hB' := hB'.same s8 | replace hB' := hB'.then s8 | replace hB' := hB'.trans s8)
          refine ⟨b, 4, rfl, hB', by decide, by decide, fun z H9 z0 z1 kp9 => ⟨_, rfl, ?_⟩⟩
          try (first | replace kp' := Kp.lst kp9 hB' kp' | replace kp' := Kp.tup kp9 hB' kp' | replace kp' := Kp.ins kp9 hB' kp' | replace kp' := kp'.kp hB' kp9 | replace kp' := Kp.trans kp' kp9)
          try (first | replace h7 := Kp.lst kp9 hB' h7 | replace h7 := Kp.tup kp9 hB' h7 | replace h7 := Kp.ins kp9 hB' h7 | replace h7 := h7.kp hB' kp9 | replace h7 := Kp.trans h7 kp9)
          try (first | replace h8 := Kp.lst kp9 hB' h8 | replace h8 := Kp.tup kp9 hB' h8 | replace h8 := Kp.ins kp9 hB' h8 | replace h8 := h8.kp hB' kp9 | replace h8 := Kp.trans h8 kp9)
          replace hB' := Kp.bag kp9
          obtain ⟨d, ed, d0, d1⟩ : ∃ d, atI [V.int 0, V.int 0, V.int 0, V.int y] z = some (.int d) ∧ 0 ≤ d ∧ d < 16 := by
            rcases (by omega : z = 0 ∨ z = 1 ∨ z = 2 ∨ z = 3) with rfl | rfl | rfl | rfl
            · exact ⟨0, rfl, by decide, by decide⟩
            · exact ⟨0, rfl, by decide, by decide⟩
            · exact ⟨0, rfl, by decide, by decide⟩
            · exact ⟨y, rfl, y0, y1⟩
          refine ⟨_, h8, _, ed, _, h7, ?_, ?_⟩
          · rw [mi_len]
            exact Nat.lt_of_lt_of_le (by omega : _ < 2000) (by decide)
          refine done_ (l2 ++ [d]) _ ?_ (o2.app fun x hx => by rw [List.mem_singleton.mp hx]; exact ⟨d0, d1⟩) ?_ (Kp.put hB0 kp' n1)
          · rw [upd_same, mi_app]
            rfl
          · rw [List.length_append]
            show _ + 1 ≤ _
            omega
        · walk_at "rd"
          exact done_ _ _ h6 o2 (by omega) kp
      have hB := kp.bag
      refine ifI fun A B ka kb => ?_
      walk_at "rd"
      refine ⟨b, 8, rfl, hB, by decide, by decide, fun w H6 w0 w1 kp6 => ⟨rfl, ite_i (fun _ => kb _ ?_) (fun _ => ka _ ?_)⟩⟩
      · walk_at "rd"
        exact last l1 H6 (kp6.lst hB h1) o1 (by omega) (kp.trans kp6)
      · have kp' := kp.trans kp6
        have h6 := kp6.lst hB h1
        walk_at "rd"
        refine ⟨tyL h6, by decide, ?_⟩
        intro u1 m1
        generalize e_u1 : upd H6 u1 _ = G1
        have t1 := new_s m1 e_u1
        have g1 := new_h e_u1
        clear e_u1
        try (first | replace kp' := t1 _ _ kp' | replace kp' := kp'.same t1 | replace kp' := kp'.then t1 | replace kp' := kp'.trans t1)
        try (first | replace h6 := t1 _ _ h6 | replace h6 := h6.same t1 | replace h6 := h6.then t1 | replace h6 := h6.trans t1)
        refine ⟨_, h6, ?_, ?_⟩
        · rw [mi_len]
          exact sz (by omega)
        rw [ap3]
        refine last (l1 ++ [15, 0, 0]) _ upd_same (o1.app NbOk.tail) ?_ (Kp.put hB0 kp' n1)
        rw [List.length_append]
        show _ + 3 ≤ _
        omega
    refine ifI fun A B ka kb => ?_
    walk_at "rd"
    refine ⟨b, 4, rfl, hB, by decide, by decide, fun w H5 w0 w1 kp5 => ⟨rfl, ite_i (fun _ => ka _ ?_) (fun _ => kb _ ?_)⟩⟩
    · clear ka kb k1
      try (first | replace hpw := Kp.lst kp5 hB hpw | replace hpw := Kp.tup kp5 hB hpw | replace hpw := Kp.ins kp5 hB hpw | replace hpw := hpw.kp hB kp5 | replace hpw := Kp.trans hpw kp5)
      try (first | replace hr := Kp.lst kp5 hB hr | replace hr := Kp.tup kp5 hB hr | replace hr := Kp.ins kp5 hB hr | replace hr := hr.kp hB kp5 | replace hr := Kp.trans hr kp5)
      try (first | replace kp := Kp.lst kp5 hB kp | replace kp := Kp.tup kp5 hB kp | replace kp := Kp.ins kp5 hB kp | replace kp := kp.kp hB kp5 | replace kp := Kp.trans kp kp5)
      replace hB := Kp.bag kp5
      refine seqI fun K1 k1 => ?_
      walk_at "rd"
      refine ⟨by decide, ?_⟩
      intro u1 m1
      generalize e_u1 : upd H5 u1 _ = G1
      have t1 := new_s m1 e_u1
      have g1 := new_h e_u1
      clear e_u1
      try (first | replace hB := t1 _ _ hB | replace hB := hB.same t1 | replace hB := hB.then t1 | replace hB := hB.trans t1)
      try (first | replace hpw := t1 _ _ hpw | replace hpw := hpw.same t1 | replace hpw := hpw.then t1 | replace hpw := hpw.trans t1)
      try (first | replace hr := t1 _ _ hr | replace hr := hr.same t1 | replace hr := hr.then t1 | replace hr := hr.trans t1)
      try (first | replace kp := t1 _ _ kp | replace kp := kp.same t1 | replace kp := kp.then t1 | replace kp := kp.trans t1)
      refine ⟨_, hr, ?_, ?_⟩
      · rw [mi_len]
        exact sz (by omega)
      intro u2 m2
      generalize e_u2 : upd G1 u2 _ = G2
      have t2 := new_s m2 e_u2
      have g2 := new_h e_u2
      clear e_u2
      try (first | replace hB := t2 _ _ hB | replace hB := hB.same t2 | replace hB := hB.then t2 | replace hB := hB.trans t2)
      try (first | replace hpw := t2 _ _ hpw | replace hpw := hpw.same t2 | replace hpw := hpw.then t2 | replace hpw := hpw.trans t2)
      try (first | replace hr := t2 _ _ hr | replace hr := hr.same t2 | replace hr := hr.then t2 | replace hr := hr.trans t2)
      try (first | replace kp := t2 _ _ kp | replace kp := kp.same t2 | replace kp := kp.then t2 | replace kp := kp.trans t2)
      try (first | replace g1 := t2 _ _ g1 | replace g1 := g1.same t2 | replace g1 := g1.then t2 | replace g1 := g1.trans t2)
      rw [ap3] at g2
      refine ⟨u2, l ++ [15, 0, 0], rfl, g2, by rw [List.length_append]; show _ + 3 ≤ _; omega, fun u3 G3 t3 m3 g3 => ?_⟩
      try (first | replace hB := t3 _ _ hB | replace hB := hB.same t3 | replace hB := hB.then t3 | replace hB := hB.trans t3)
      try (first | replace hpw := t3 _ _ hpw | replace hpw := hpw.same t3 | replace hpw := hpw.then t3 | replace hpw := hpw.trans t3)
      try (first | replace hr := t3 _ _ hr | replace hr := hr.same t3 | replace hr := hr.then t3 | replace hr := hr.trans t3)
      try (first | replace kp := t3 _ _ kp | replace kp := kp.same t3 | replace kp := kp.then t3 | replace kp := kp.trans t3)
      try (first | replace g1 := t3 _ _ g1 | replace g1 := g1.same t3 | replace g1 := g1.then t3 | replace g1 := g1.trans t3)
      try (first | replace g2 := t3 _ _ g2 | replace g2 := g2.same t3 | replace g2 := g2.then t3 | replace g2 := g2.trans t3)
      have o3 := by2_ok (hl.app NbOk.tail)
      refine ⟨pw, u3, ws, _, 0, rfl, hpw, g3, ok, o3, ?_, fun v G4 t4 hv => k1 _ _ ?_⟩
      · rw [by2_len, List.length_append]
        show (_ + 3 + 1) / 2 ≤ _
        omega
      clear k1
      try (first | replace hB := t4 _ _ hB | replace hB := hB.same t4 | replace hB := hB.then t4 | replace hB := hB.trans t4)
      try (first | replace hpw := t4 _ _ hpw | replace hpw := hpw.same t4 | replace hpw := hpw.then t4 | replace hpw := hpw.trans t4)
      try (first | replace hr := t4 _ _ hr | replace hr := hr.same t4 | replace hr := hr.then t4 | replace hr := hr.trans t4)
      try (first | replace kp := t4 _ _ kp | replace kp := kp.same t4 | replace kp := kp.then t4 | replace kp := kp.trans t4)
      try (first | replace g1 := t4 _ _ g1 | replace g1 := g1.same t4 | replace g1 := g1.then t4 | replace g1 := g1.trans t4)
      try (first | replace g2 := t4 _ _ g2 | replace g2 := g2.same t4 | replace g2 := g2.then t4 | replace g2 := g2.trans t4)
      refine seqI fun K1 k1 => ?_
      walk_at "rd"
      refine ⟨b, 2, rfl, hB, by decide, by decide, fun sg H6 g0 g1 kp6 => k1 _ _ ?_⟩
      clear k1
      have hv6 : optR H6 v (rdR ws (by2 (l ++ [15, 0, 0])) 0) := by
        cases e : rdR ws (by2 (l ++ [15, 0, 0])) 0 with
        | none => rw [e] at hv; exact hv
        | some y =>
          rw [e] at hv
          obtain ⟨q1, e1, e2⟩ := hv
          exact ⟨q1, e1, kp6.tup hB e2⟩
      try (first | replace hpw := Kp.lst kp6 hB hpw | replace hpw := Kp.tup kp6 hB hpw | replace hpw := Kp.ins kp6 hB hpw | replace hpw := hpw.kp hB kp6 | replace hpw := Kp.trans hpw kp6)
      try (first | replace hr := Kp.lst kp6 hB hr | replace hr := Kp.tup kp6 hB hr | replace hr := Kp.ins kp6 hB hr | replace hr := hr.kp hB kp6 | replace hr := Kp.trans hr kp6)
      try (first | replace kp := Kp.lst kp6 hB kp | replace kp := Kp.tup kp6 hB kp | replace kp := Kp.ins kp6 hB kp | replace kp := kp.kp hB kp6 | replace kp := Kp.trans kp kp6)
      try (first | replace g1 := Kp.lst kp6 hB g1 | replace g1 := Kp.tup kp6 hB g1 | replace g1 := Kp.ins kp6 hB g1 | replace g1 := g1.kp hB kp6 | replace g1 := Kp.trans g1 kp6)
      try (first | replace g2 := Kp.lst kp6 hB g2 | replace g2 := Kp.tup kp6 hB g2 | replace g2 := Kp.ins kp6 hB g2 | replace g2 := g2.kp hB kp6 | replace g2 := Kp.trans g2 kp6)
      replace hB := Kp.bag kp6
      clear hv g2 g3 m3 m2 m1
      refine seqI fun K1 k1 => ?_
      walk_at "rd"
      refine ⟨by decide, ?_⟩
      have hvk := hv6
      intro u6 m6
      generalize e_u6 : upd H6 u6 _ = G6
      have t6 := new_s m6 e_u6
      have g6 := new_h e_u6
      clear e_u6
      try (first | replace hB := t6 _ _ hB | replace hB := hB.same t6 | replace hB := hB.then t6 | replace hB := hB.trans t6)
      try (first | replace hpw := t6 _ _ hpw | replace hpw := hpw.same t6 | replace hpw := hpw.then t6 | replace hpw := hpw.trans t6)
      try (first | replace hr := t6 _ _ hr | replace hr := hr.same t6 | replace hr := hr.then t6 | replace hr := hr.trans t6)
      try (first | replace kp := t6 _ _ kp | replace kp := kp.same t6 | replace kp := kp.then t6 | replace kp := kp.trans t6)
      try (first | replace g1 := t6 _ _ g1 | replace g1 := g1.same t6 | replace g1 := g1.then t6 | replace g1 := g1.trans t6)
      try (first | replace g2 := t6 _ _ g2 | replace g2 := g2.same t6 | replace g2 := g2.then t6 | replace g2 := g2.trans t6)
      refine ⟨b, 5, rfl, hB, by decide, by decide, fun z H7 z0 z1 kp7 => ⟨_, rfl, ?_⟩⟩
      have hv7 : optR H7 v (rdR ws (by2 (l ++ [15, 0, 0])) 0) := by
        cases e : rdR ws (by2 (l ++ [15, 0, 0])) 0 with
        | none => rw [e] at hv6; exact hv6
        | some y =>
          rw [e] at hv6
          obtain ⟨q1, e1, e2⟩ := hv6
          exact ⟨q1, e1, kp7.tup hB (t6 _ _ e2)⟩
      try (first | replace hpw := Kp.lst kp7 hB hpw | replace hpw := Kp.tup kp7 hB hpw | replace hpw := Kp.ins kp7 hB hpw | replace hpw := hpw.kp hB kp7 | replace hpw := Kp.trans hpw kp7)
      try (first | replace hr := Kp.lst kp7 hB hr | replace hr := Kp.tup kp7 hB hr | replace hr := Kp.ins kp7 hB hr | replace hr := hr.kp hB kp7 | replace hr := Kp.trans hr kp7)
      try (first | replace kp := Kp.lst kp7 hB kp | replace kp := Kp.tup kp7 hB kp | replace kp := Kp.ins kp7 hB kp | replace kp := kp.kp hB kp7 | replace kp := Kp.trans kp kp7)
      try (first | replace g1 := Kp.lst kp7 hB g1 | replace g1 := Kp.tup kp7 hB g1 | replace g1 := Kp.ins kp7 hB g1 | replace g1 := g1.kp hB kp7 | replace g1 := Kp.trans g1 kp7)
      try (first | replace g2 := Kp.lst kp7 hB g2 | replace g2 := Kp.tup kp7 hB g2 | replace g2 := Kp.ins kp7 hB g2 | replace g2 := g2.kp hB kp7 | replace g2 := Kp.trans g2 kp7)
      try (first | replace g6 := Kp.lst kp7 hB g6 | replace g6 := Kp.tup kp7 hB g6 | replace g6 := Kp.ins kp7 hB g6 | replace g6 := g6.kp hB kp7 | replace g6 := Kp.trans g6 kp7)
      replace hB := Kp.bag kp7
      clear hv6 hvk
      obtain ⟨sz_, es, s0, s2⟩ : ∃ d, atI [V.int 198, V.int 199, V.int 199, V.int 200, V.int 201] z = some (.int d) ∧ 0 ≤ d ∧ d ≤ 201 := by
        rcases (by omega : z = 0 ∨ z = 1 ∨ z = 2 ∨ z = 3 ∨ z = 4) with rfl | rfl | rfl | rfl | rfl
        · exact ⟨_, rfl, by decide, by decide⟩
        · exact ⟨_, rfl, by decide, by decide⟩
        · exact ⟨_, rfl, by decide, by decide⟩
        · exact ⟨_, rfl, by decide, by decide⟩
        · exact ⟨_, rfl, by decide, by decide⟩
      refine ⟨_, g6, _, es, k1 _ _ ?_⟩
      clear k1 es
      cases e : rdR ws (by2 (l ++ [15, 0, 0])) 0 with
      | none =>
        rw [e] at hv7
        have ev : v = .non := hv7
        subst ev
        walk_at "rd"
        exact fin pr l _ _ _ _ H7 nr hr hl (by omega) kp
      | some y =>
        obtain ⟨t, bh⟩ := y
        rw [e] at hv7
        obtain ⟨qv, rfl, hqv⟩ := hv7
        have t200 := rdR_200 ok o3 e
        have nl : ¬ V.ref qv = V.non := by intro z; cases z
        walk_at "rd"
        refine ⟨by decide, ?_⟩
        intro a1 b1
        generalize e_a1 : upd H7 a1 _ = J1
        have c1 := new_s b1 e_a1
        have d1 := new_h e_a1
        clear e_a1
        try (first | replace kp := c1 _ _ kp | replace kp := kp.same c1 | replace kp := kp.then c1 | replace kp := kp.trans c1)
        try (first | replace hr := c1 _ _ hr | replace hr := hr.same c1 | replace hr := hr.then c1 | replace hr := hr.trans c1)
        try (first | replace hqv := c1 _ _ hqv | replace hqv := hqv.same c1 | replace hqv := hqv.then c1 | replace hqv := hqv.trans c1)
        refine ⟨_, hqv, _, rfl, t, rfl, sz (by omega), ?_⟩
        generalize eN : (if sz_ - (t.length : Int) > 0 then sz_ - (t.length : Int) else 0) = N
        have hN : 0 ≤ N ∧ N ≤ 201 := by
          rw [← eN]
          split <;> omega
        refine ⟨by omega, by omega, sz (by omega), ?_⟩
        have er : (List.replicate N.toNat [V.int sg]).flatten = mi (List.replicate N.toNat sg) := by
          generalize N.toNat = n
          induction n with
          | zero => rfl
          | succ n ih =>
            rw [List.replicate_succ, List.flatten_cons, ih, List.replicate_succ]
            rfl
        rw [er]
        intro a2 b2
        generalize e_a2 : upd J1 a2 _ = J2
        have c2 := new_s b2 e_a2
        have d2 := new_h e_a2
        clear e_a2
        try (first | replace kp := c2 _ _ kp | replace kp := kp.same c2 | replace kp := kp.then c2 | replace kp := kp.trans c2)
        try (first | replace hr := c2 _ _ hr | replace hr := hr.same c2 | replace hr := hr.then c2 | replace hr := hr.trans c2)
        try (first | replace hqv := c2 _ _ hqv | replace hqv := hqv.same c2 | replace hqv := hqv.then c2 | replace hqv := hqv.trans c2)
        try (first | replace d1 := c2 _ _ d1 | replace d1 := d1.same c2 | replace d1 := d1.then c2 | replace d1 := d1.trans c2)
        refine ⟨by decide, ?_⟩
        intro a3 b3
        generalize e_a3 : upd J2 a3 _ = J3
        have c3 := new_s b3 e_a3
        have d3 := new_h e_a3
        clear e_a3
        try (first | replace kp := c3 _ _ kp | replace kp := kp.same c3 | replace kp := kp.then c3 | replace kp := kp.trans c3)
        try (first | replace hr := c3 _ _ hr | replace hr := hr.same c3 | replace hr := hr.then c3 | replace hr := hr.trans c3)
        try (first | replace hqv := c3 _ _ hqv | replace hqv := hqv.same c3 | replace hqv := hqv.then c3 | replace hqv := hqv.trans c3)
        try (first | replace d1 := c3 _ _ d1 | replace d1 := d1.same c3 | replace d1 := d1.then c3 | replace d1 := d1.trans c3)
        try (first | replace d2 := c3 _ _ d2 | replace d2 := d2.same c3 | replace d2 := d2.then c3 | replace d2 := d2.trans c3)
        refine ⟨_, d2, ?_, ?_⟩
        · rw [mi_len, List.length_replicate]
          exact sz (by omega)
        intro a4 b4
        generalize e_a4 : upd J3 a4 _ = J4
        have c4 := new_s b4 e_a4
        have d4 := new_h e_a4
        clear e_a4
        try (first | replace kp := c4 _ _ kp | replace kp := kp.same c4 | replace kp := kp.then c4 | replace kp := kp.trans c4)
        try (first | replace hr := c4 _ _ hr | replace hr := hr.same c4 | replace hr := hr.then c4 | replace hr := hr.trans c4)
        try (first | replace hqv := c4 _ _ hqv | replace hqv := hqv.same c4 | replace hqv := hqv.then c4 | replace hqv := hqv.trans c4)
        try (first | replace d1 := c4 _ _ d1 | replace d1 := d1.same c4 | replace d1 := d1.then c4 | replace d1 := d1.trans c4)
        try (first | replace d2 := c4 _ _ d2 | replace d2 := d2.same c4 | replace d2 := d2.then c4 | replace d2 := d2.trans c4)
        try (first | replace d3 := c4 _ _ d3 | replace d3 := d3.same c4 | replace d3 := d3.then c4 | replace d3 := d3.trans c4)
        refine ⟨_, hr, ?_, ?_⟩
        · rw [List.length_append, mi_len, mi_len, List.length_replicate]
          exact sz (show _ + 1 + _ ≤ _ by omega)
        have ea : mi (List.replicate N.toNat sg) ++ [V.int 0] ++ mi l = mi (List.replicate N.toNat sg ++ [0] ++ l) := by
          rw [mi_app, mi_app]
          rfl
        rw [ea]
        intro a5 b5
        refine fin a5 (List.replicate N.toNat sg ++ [0] ++ l) _ _ _ _ _ (kp.free b5) upd_same ?_ ?_ (kp.then (same_new b5))
        · refine NbOk.app (NbOk.app (fun x hx => ?_) fun x hx => ?_) hl
          · rw [(List.mem_replicate.mp hx).2]
            omega
          · rw [List.mem_singleton.mp hx]
            decide
        · rw [List.length_append, List.length_append, List.length_replicate]
          show _ + 1 + _ ≤ _
          omega
    · walk_at "rd"
      exact fin pr l _ _ _ _ H5 nr (kp5.lst hB hr) hl (by omega) (kp.trans kp5)
end
section
variable {P : Program} {w : World} {K : PySem.W.Frag} {mg : Str → Option Value} {base : Heap}
theorem ok__law_spoilt (S : Src K mg "_law_spoilt" s__law_spoilt) (T : Tx P K mg) (C__law_pick : Cal P w K mg base CX0 1 "_law_pick" ["_law_bag_here", "_law_many"] spPick)  : Cal P w K mg base CX0 2 "_law_spoilt" ["_law_bag_here", "_law_row_here"] spSpoiltB := by
  refine S.cal sc__law_spoilt bn__law_spoilt (fun vs H Q E h => ?_) (fun f cdv A outer s H vs Q E hr h => ?_)
  · first | (obtain ⟨rfl, _⟩ := h; rfl) | (obtain ⟨_, rfl, _⟩ := h; rfl) | (obtain ⟨_, _, rfl, _⟩ := h; rfl) | (obtain ⟨_, _, _, rfl, _⟩ := h; rfl) | (obtain ⟨_, _, _, _, rfl, _⟩ := h; rfl) | (obtain ⟨_, _, _, _, _, rfl, _⟩ := h; rfl) | (obtain ⟨_, _, _, _, _, _, rfl, _⟩ := h; rfl) | (obtain ⟨_, _, _, _, _, _, _, rfl, _⟩ := h; rfl) | (obtain ⟨_, _, _, _, _, _, _, _, rfl, _⟩ := h; rfl) | (obtain ⟨_, _, _, _, _, _, _, _, _, rfl, _⟩ := h; rfl)
  · skip
    refine ⟨_, (pss_cons (ps_for PassesOwn.never rfl (pi_range1 rfl T.b_range (Fx.pa_c (pe_ix Fx.ix_L (pe_lst (Fx.pa_c pe_int (Fx.pa_c pe_int (Fx.pa_c pe_int (Fx.pa_c pe_int pa_nil))))) (Fx.pe_cal C__law_pick (hr.mono (by decide)) pass0 (Fx.pa_c (pv 0) (Fx.pa_c pe_int pa_nil))) (fun _ _ => rfl)) pa_nil)) (pg_name (i := 2) sc__law_spoilt.nd rfl (Or.inl rfl)) (pss_cons (ps_set (i := 3) sc__law_spoilt.nd rfl (Or.inl rfl) (Fx.pe_cal C__law_pick (hr.mono (by decide)) pass0 (Fx.pa_c (pv 0) (Fx.pa_c pe_int pa_nil))))
        (pss_cons (ps_set (i := 4) sc__law_spoilt.nd rfl (Or.inl rfl) (Fx.pe_cal C__law_pick (hr.mono (by decide)) pass0 (Fx.pa_c (pv 0) (Fx.pa_c (pe_op op_add (Fx.pe_cB Fx.len_L T.b_len (by decide +kernel) (Fx.pa_c (pv 1) pa_nil)) pe_int) pa_nil))))
        (pss_one (ps_if (pt_cmpR op_eq (pv 3) pe_int (nomark _)) (pss_one (ps_set (i := 1) sc__law_spoilt.nd rfl (Or.inl rfl) (pe_op op_cat (pe_op op_cat (pe_slice Fx.sl_L (pv 1) po_none (po_some (pv 4))) (pe_lst (Fx.pa_c (Fx.pe_cal C__law_pick (hr.mono (by decide)) pass0 (Fx.pa_c (pv 0) (Fx.pa_c pe_int pa_nil))) pa_nil))) (pe_slice Fx.sl_L (pv 1) (po_some (pe_op op_add (pv 4) pe_int)) po_none)))) (pss_one (ps_if (pt_cmpR op_eq (pv 3) pe_int (nomark _)) (pss_one (ps_set (i := 1) sc__law_spoilt.nd rfl (Or.inl rfl) (pe_op op_cat (pe_op op_cat (pe_slice Fx.sl_L (pv 1) po_none (po_some (pv 4))) (pe_lst (Fx.pa_c (Fx.pe_cal C__law_pick (hr.mono (by decide)) pass0 (Fx.pa_c (pv 0) (Fx.pa_c pe_int pa_nil))) pa_nil))) (pe_slice Fx.sl_L (pv 1) (po_some (pv 4)) po_none)))) (pss_one (ps_if (pt_cmpR op_eq (pv 3) pe_int (nomark _)) (pss_one (ps_set (i := 1) sc__law_spoilt.nd rfl (Or.inl rfl) (pe_op op_cat (pe_slice Fx.sl_L (pv 1) po_none (po_some (pv 4))) (pe_slice Fx.sl_L (pv 1) (po_some (pe_op op_add (pv 4) pe_int)) po_none)))) (pss_one (ps_set (i := 1) sc__law_spoilt.nd rfl (Or.inl rfl) (pe_slice Fx.sl_L (pv 1) po_none (po_some (pv 4))))))))))))))
        (pss_one (ps_ret (pv 1)))), ?_⟩
    obtain ⟨b, p, l, rfl, hB, hp, hb, hl, q⟩ := h
    refine seqI fun K1 k1 => ?_
    refine forI fun R kR => ?_
    walk_at "rd"
    refine ⟨by decide, ?_⟩
    have kp0 := Kp.refl hB
    intro p1 n1
    generalize e_p1 : upd H p1 _ = H1
    have s1 := new_s n1 e_p1
    have h1 := new_h e_p1
    clear e_p1
    try (first | replace hB := s1 _ _ hB | replace hB := hB.same s1 | replace hB := hB.then s1 | replace hB := hB.trans s1)
    try (first | replace hp := s1 _ _ hp | replace hp := hp.same s1 | replace hp := hp.then s1 | replace hp := hp.trans s1)
    try (first | replace kp0 := s1 _ _ kp0 | replace kp0 := kp0.same s1 | replace kp0 := kp0.then s1 | replace kp0 := kp0.trans s1)
    refine ⟨b, 4, rfl, hB, by decide, by decide, fun k H2 k0 k4 kp2 => ⟨_, rfl, ?_⟩⟩
    try (first | replace hp := Kp.lst kp2 hB hp | replace hp := Kp.tup kp2 hB hp | replace hp := Kp.ins kp2 hB hp | replace hp := hp.kp hB kp2 | replace hp := Kp.trans hp kp2)
    try (first | replace kp0 := Kp.lst kp2 hB kp0 | replace kp0 := Kp.tup kp2 hB kp0 | replace kp0 := Kp.ins kp2 hB kp0 | replace kp0 := kp0.kp hB kp2 | replace kp0 := Kp.trans kp0 kp2)
    try (first | replace h1 := Kp.lst kp2 hB h1 | replace h1 := Kp.tup kp2 hB h1 | replace h1 := Kp.ins kp2 hB h1 | replace h1 := h1.kp hB kp2 | replace h1 := Kp.trans h1 kp2)
    replace hB := Kp.bag kp2
    obtain ⟨m, ek, m0, m2⟩ : ∃ m : Int, atI [V.int 0, V.int 0, V.int 1, V.int 2] k = some (.int m) ∧ 0 ≤ m ∧ m ≤ 2 := by
      rcases (by omega : k = 0 ∨ k = 1 ∨ k = 2 ∨ k = 3) with rfl | rfl | rfl | rfl
      · exact ⟨_, rfl, by decide, by decide⟩
      · exact ⟨_, rfl, by decide, by decide⟩
      · exact ⟨_, rfl, by decide, by decide⟩
      · exact ⟨_, rfl, by decide, by decide⟩
    refine ⟨_, h1, _, ek, m, rfl, by omega, by omega, kR _ _ ?_⟩
    clear kR ek h1 k0 k4
    refine for_range (lo := 0) (n := m.toNat) (fun i σ H' => ∃ (p' : Addr) (l' : List Int) (v2 v3 v4 : Option V), σ = [some (.ref b), some (.ref p'), v2, v3, v4] ∧ H' p' = some (.lst (mi l')) ∧ ByOk l' ∧ l'.length ≤ 2000 + i ∧ Kp b H H') ⟨p, l, none, none, none, rfl, hp, hb, by omega, kp0⟩ ?_ ?_
    · rintro i σ H3 hi ⟨p', l', v2, v3, v4, rfl, hp', hb', hl', kp3⟩
      clear k1
      have hB := kp3.bag
      have kp := Kp.refl hB
      refine seqI fun K1 k1 => ?_
      walk_at "rd"
      refine ⟨b, 4, rfl, hB, by decide, by decide, fun w H4 w0 w1 kp4 => k1 _ _ ?_⟩
      clear k1
      try (first | replace hp' := Kp.lst kp4 hB hp' | replace hp' := Kp.tup kp4 hB hp' | replace hp' := Kp.ins kp4 hB hp' | replace hp' := hp'.kp hB kp4 | replace hp' := Kp.trans hp' kp4)
      try (first | replace kp := Kp.lst kp4 hB kp | replace kp := Kp.tup kp4 hB kp | replace kp := Kp.ins kp4 hB kp | replace kp := kp.kp hB kp4 | replace kp := Kp.trans kp kp4)
      try (first | replace kp3 := Kp.lst kp4 hB kp3 | replace kp3 := Kp.tup kp4 hB kp3 | replace kp3 := Kp.ins kp4 hB kp3 | replace kp3 := kp3.kp hB kp4 | replace kp3 := Kp.trans kp3 kp4)
      replace hB := Kp.bag kp4
      refine seqI fun K1 k1 => ?_
      walk_at "rd"
      refine ⟨_, hp', b, _, rfl, hB, by rw [mi_len]; omega, by rw [mi_len]; omega, fun a H5 a0 a1 kp5 => k1 _ _ ?_⟩
      clear k1
      try (first | replace hp' := Kp.lst kp5 hB hp' | replace hp' := Kp.tup kp5 hB hp' | replace hp' := Kp.ins kp5 hB hp' | replace hp' := hp'.kp hB kp5 | replace hp' := Kp.trans hp' kp5)
      try (first | replace kp := Kp.lst kp5 hB kp | replace kp := Kp.tup kp5 hB kp | replace kp := Kp.ins kp5 hB kp | replace kp := kp.kp hB kp5 | replace kp := Kp.trans kp kp5)
      try (first | replace kp3 := Kp.lst kp5 hB kp3 | replace kp3 := Kp.tup kp5 hB kp3 | replace kp3 := Kp.ins kp5 hB kp3 | replace kp3 := kp3.kp hB kp5 | replace kp3 := Kp.trans kp3 kp5)
      replace hB := Kp.bag kp5
      rw [mi_len] at a1
      obtain ⟨an, rfl⟩ : ∃ n : Nat, a = (n : Int) := ⟨a.toNat, by omega⟩
      have an1 : an ≤ l'.length := by omega
      clear a0 a1 w0 w1
      have tk : ByOk (l'.take an) := fun x hx => hb' x (List.mem_of_mem_take hx)
      have dr : ∀ n, ByOk (l'.drop n) := fun n x hx => hb' x (List.mem_of_mem_drop hx)
      refine ifI fun A B ka kb => ?_
      walk_at "rd"
      refine ite_i (fun e => ka _ ?_) (fun e => kb _ ?_)
      · walk_at "rd"
        refine ⟨_, hp', ?_⟩
        intro q1 m1
        generalize e_q1 : upd H5 q1 _ = H6
        have s6 := new_s m1 e_q1
        have h6 := new_h e_q1
        clear e_q1
        try (first | replace hB := s6 _ _ hB | replace hB := hB.same s6 | replace hB := hB.then s6 | replace hB := hB.trans s6)
        try (first | replace hp' := s6 _ _ hp' | replace hp' := hp'.same s6 | replace hp' := hp'.then s6 | replace hp' := hp'.trans s6)
        try (first | replace kp := s6 _ _ kp | replace kp := kp.same s6 | replace kp := kp.then s6 | replace kp := kp.trans s6)
        try (first | replace kp3 := s6 _ _ kp3 | replace kp3 := kp3.same s6 | replace kp3 := kp3.then s6 | replace kp3 := kp3.trans s6)
        refine ⟨b, 256, rfl, hB, by decide, by decide, fun y H7 y0 y1 kp7 => ⟨by decide, ?_⟩⟩
        try (first | replace hp' := Kp.lst kp7 hB hp' | replace hp' := Kp.tup kp7 hB hp' | replace hp' := Kp.ins kp7 hB hp' | replace hp' := hp'.kp hB kp7 | replace hp' := Kp.trans hp' kp7)
        try (first | replace kp := Kp.lst kp7 hB kp | replace kp := Kp.tup kp7 hB kp | replace kp := Kp.ins kp7 hB kp | replace kp := kp.kp hB kp7 | replace kp := Kp.trans kp kp7)
        try (first | replace kp3 := Kp.lst kp7 hB kp3 | replace kp3 := Kp.tup kp7 hB kp3 | replace kp3 := Kp.ins kp7 hB kp3 | replace kp3 := kp3.kp hB kp7 | replace kp3 := Kp.trans kp3 kp7)
        try (first | replace h6 := Kp.lst kp7 hB h6 | replace h6 := Kp.tup kp7 hB h6 | replace h6 := Kp.ins kp7 hB h6 | replace h6 := h6.kp hB kp7 | replace h6 := Kp.trans h6 kp7)
        replace hB := Kp.bag kp7
        intro q2 m2
        generalize e_q2 : upd H7 q2 _ = H8
        have s8 := new_s m2 e_q2
        have h8 := new_h e_q2
        clear e_q2
        try (first | replace hB := s8 _ _ hB | replace hB := hB.same s8 | replace hB := hB.then s8 | replace hB := hB.trans s8)
        try (first | replace hp' := s8 _ _ hp' | replace hp' := hp'.same s8 | replace hp' := hp'.then s8 | replace hp' := hp'.trans s8)
        try (first | replace kp := s8 _ _ kp | replace kp := kp.same s8 | replace kp := kp.then s8 | replace kp := kp.trans s8)
        try (first | replace kp3 := s8 _ _ kp3 | replace kp3 := kp3.same s8 | replace kp3 := kp3.then s8 | replace kp3 := kp3.trans s8)
        try (first | replace h6 := s8 _ _ h6 | replace h6 := h6.same s8 | replace h6 := h6.then s8 | replace h6 := h6.trans s8)
        refine ⟨_, h6, ?_, ?_⟩
        · rw [cutV_hi, mi_take, mi_len, List.length_take]
          exact sz (by omega)
        intro q3 m3
        generalize e_q3 : upd H8 q3 _ = H9
        have s9 := new_s m3 e_q3
        have h9 := new_h e_q3
        clear e_q3
        try (first | replace hB := s9 _ _ hB | replace hB := hB.same s9 | replace hB := hB.then s9 | replace hB := hB.trans s9)
        try (first | replace hp' := s9 _ _ hp' | replace hp' := hp'.same s9 | replace hp' := hp'.then s9 | replace hp' := hp'.trans s9)
        try (first | replace kp := s9 _ _ kp | replace kp := kp.same s9 | replace kp := kp.then s9 | replace kp := kp.trans s9)
        try (first | replace kp3 := s9 _ _ kp3 | replace kp3 := kp3.same s9 | replace kp3 := kp3.then s9 | replace kp3 := kp3.trans s9)
        try (first | replace h6 := s9 _ _ h6 | replace h6 := h6.same s9 | replace h6 := h6.then s9 | replace h6 := h6.trans s9)
        try (first | replace h8 := s9 _ _ h8 | replace h8 := h8.same s9 | replace h8 := h8.then s9 | replace h8 := h8.trans s9)
        refine ⟨_, hp', ?_⟩
        intro q4 m4
        generalize e_q4 : upd H9 q4 _ = H10
        have s10 := new_s m4 e_q4
        have h10 := new_h e_q4
        clear e_q4
        try (first | replace hB := s10 _ _ hB | replace hB := hB.same s10 | replace hB := hB.then s10 | replace hB := hB.trans s10)
        try (first | replace hp' := s10 _ _ hp' | replace hp' := hp'.same s10 | replace hp' := hp'.then s10 | replace hp' := hp'.trans s10)
        try (first | replace kp := s10 _ _ kp | replace kp := kp.same s10 | replace kp := kp.then s10 | replace kp := kp.trans s10)
        try (first | replace kp3 := s10 _ _ kp3 | replace kp3 := kp3.same s10 | replace kp3 := kp3.then s10 | replace kp3 := kp3.trans s10)
        try (first | replace h6 := s10 _ _ h6 | replace h6 := h6.same s10 | replace h6 := h6.then s10 | replace h6 := h6.trans s10)
        try (first | replace h8 := s10 _ _ h8 | replace h8 := h8.same s10 | replace h8 := h8.then s10 | replace h8 := h8.trans s10)
        try (first | replace h9 := s10 _ _ h9 | replace h9 := h9.same s10 | replace h9 := h9.then s10 | replace h9 := h9.trans s10)
        refine ⟨_, h9, ?_, ?_⟩
        · rw [show ((an : Int) + 1) = ((an + 1 : Nat) : Int) by omega, cutV_hi, cutV_lo, mi_take, mi_drop, List.length_append, mi_len, mi_len, List.length_take, List.length_drop]
          exact sz (show _ + 1 + _ ≤ _ by omega)
        intro q5 m5
        generalize e_q5 : upd H10 q5 _ = H11
        have s11 := new_s m5 e_q5
        have h11 := new_h e_q5
        clear e_q5
        try (first | replace hB := s11 _ _ hB | replace hB := hB.same s11 | replace hB := hB.then s11 | replace hB := hB.trans s11)
        try (first | replace hp' := s11 _ _ hp' | replace hp' := hp'.same s11 | replace hp' := hp'.then s11 | replace hp' := hp'.trans s11)
        try (first | replace kp := s11 _ _ kp | replace kp := kp.same s11 | replace kp := kp.then s11 | replace kp := kp.trans s11)
        try (first | replace kp3 := s11 _ _ kp3 | replace kp3 := kp3.same s11 | replace kp3 := kp3.then s11 | replace kp3 := kp3.trans s11)
        try (first | replace h6 := s11 _ _ h6 | replace h6 := h6.same s11 | replace h6 := h6.then s11 | replace h6 := h6.trans s11)
        try (first | replace h8 := s11 _ _ h8 | replace h8 := h8.same s11 | replace h8 := h8.then s11 | replace h8 := h8.trans s11)
        try (first | replace h9 := s11 _ _ h9 | replace h9 := h9.same s11 | replace h9 := h9.then s11 | replace h9 := h9.trans s11)
        try (first | replace h10 := s11 _ _ h10 | replace h10 := h10.same s11 | replace h10 := h10.then s11 | replace h10 := h10.trans s11)
        refine ⟨l'.take an ++ [y] ++ l'.drop (an + 1), ?_, fun x hx => ?_, ?_, kp3⟩
        · rw [show ((an : Int) + 1) = ((an + 1 : Nat) : Int) by omega, cutV_hi, cutV_lo, mi_take, mi_drop, mi_app, mi_app]
          rfl
        · rcases List.mem_append.mp hx with hx | hx
          · rcases List.mem_append.mp hx with hx | hx
            · exact tk x hx
            · rw [List.mem_singleton.mp hx]
              exact ⟨y0, y1⟩
          · exact dr _ x hx
        · rw [List.length_append, List.length_append, List.length_take, List.length_drop]
          show _ + 1 + _ ≤ _
          omega
      clear ka kb
      refine ifI fun A B ka kb => ?_
      walk_at "rd"
      refine ite_i (fun e => ka _ ?_) (fun e => kb _ ?_)
      · walk_at "rd"
        refine ⟨_, hp', ?_⟩
        intro q1 m1
        generalize e_q1 : upd H5 q1 _ = H6
        have s6 := new_s m1 e_q1
        have h6 := new_h e_q1
        clear e_q1
        try (first | replace hB := s6 _ _ hB | replace hB := hB.same s6 | replace hB := hB.then s6 | replace hB := hB.trans s6)
        try (first | replace hp' := s6 _ _ hp' | replace hp' := hp'.same s6 | replace hp' := hp'.then s6 | replace hp' := hp'.trans s6)
        try (first | replace kp := s6 _ _ kp | replace kp := kp.same s6 | replace kp := kp.then s6 | replace kp := kp.trans s6)
        try (first | replace kp3 := s6 _ _ kp3 | replace kp3 := kp3.same s6 | replace kp3 := kp3.then s6 | replace kp3 := kp3.trans s6)
        try (first | replace h6 := s6 _ _ h6 | replace h6 := h6.same s6 | replace h6 := h6.then s6 | replace h6 := h6.trans s6)
        try (first | replace h8 := s6 _ _ h8 | replace h8 := h8.same s6 | replace h8 := h8.then s6 | replace h8 := h8.trans s6)
        try (first | replace h9 := s6 _ _ h9 | replace h9 := h9.same s6 | replace h9 := h9.then s6 | replace h9 := h9.trans s6)
        try (first | replace h10 := s6 _ _ h10 | replace h10 := h10.same s6 | replace h10 := h10.then s6 | replace h10 := h10.trans s6)
        try (first | replace h11 := s6 _ _ h11 | replace h11 := h11.same s6 | replace h11 := h11.then s6 | replace h11 := h11.trans s6)
        refine ⟨b, 256, rfl, hB, by decide, by decide, fun y H7 y0 y1 kp7 => ⟨by decide, ?_⟩⟩
        try (first | replace hp' := Kp.lst kp7 hB hp' | replace hp' := Kp.tup kp7 hB hp' | replace hp' := Kp.ins kp7 hB hp' | replace hp' := hp'.kp hB kp7 | replace hp' := Kp.trans hp' kp7)
        try (first | replace kp := Kp.lst kp7 hB kp | replace kp := Kp.tup kp7 hB kp | replace kp := Kp.ins kp7 hB kp | replace kp := kp.kp hB kp7 | replace kp := Kp.trans kp kp7)
        try (first | replace kp3 := Kp.lst kp7 hB kp3 | replace kp3 := Kp.tup kp7 hB kp3 | replace kp3 := Kp.ins kp7 hB kp3 | replace kp3 := kp3.kp hB kp7 | replace kp3 := Kp.trans kp3 kp7)
        try (first | replace h6 := Kp.lst kp7 hB h6 | replace h6 := Kp.tup kp7 hB h6 | replace h6 := Kp.ins kp7 hB h6 | replace h6 := h6.kp hB kp7 | replace h6 := Kp.trans h6 kp7)
        try (first | replace h8 := Kp.lst kp7 hB h8 | replace h8 := Kp.tup kp7 hB h8 | replace h8 := Kp.ins kp7 hB h8 | replace h8 := h8.kp hB kp7 | replace h8 := Kp.trans h8 kp7)
        try (first | replace h9 := Kp.lst kp7 hB h9 | replace h9 := Kp.tup kp7 hB h9 | replace h9 := Kp.ins kp7 hB h9 | replace h9 := h9.kp hB kp7 | replace h9 := Kp.trans h9 kp7)
        try (first | replace h10 := Kp.lst kp7 hB h10 | replace h10 := Kp.tup kp7 hB h10 | replace h10 := Kp.ins kp7 hB h10 | replace h10 := h10.kp hB kp7 | replace h10 := Kp.trans h10 kp7)
        try (first | replace h11 := Kp.lst kp7 hB h11 | replace h11 := Kp.tup kp7 hB h11 | replace h11 := Kp.ins kp7 hB h11 | replace h11 := h11.kp hB kp7 | replace h11 := Kp.trans h11 kp7)
        try (first | replace h6 := Kp.lst kp7 hB h6 | replace h6 := Kp.tup kp7 hB h6 | replace h6 := Kp.ins kp7 hB h6 | replace h6 := h6.kp hB kp7 | replace h6 := Kp.trans h6 kp7)
        replace hB := Kp.bag kp7
        intro q2 m2
        generalize e_q2 : upd H7 q2 _ = H8
        have s8 := new_s m2 e_q2
        have h8 := new_h e_q2
        clear e_q2
        try (first | replace hB := s8 _ _ hB | replace hB := hB.same s8 | replace hB := hB.then s8 | replace hB := hB.trans s8)
        try (first | replace hp' := s8 _ _ hp' | replace hp' := hp'.same s8 | replace hp' := hp'.then s8 | replace hp' := hp'.trans s8)
        try (first | replace kp := s8 _ _ kp | replace kp := kp.same s8 | replace kp := kp.then s8 | replace kp := kp.trans s8)
        try (first | replace kp3 := s8 _ _ kp3 | replace kp3 := kp3.same s8 | replace kp3 := kp3.then s8 | replace kp3 := kp3.trans s8)
        try (first | replace h6 := s8 _ _ h6 | replace h6 := h6.same s8 | replace h6 := h6.then s8 | replace h6 := h6.trans s8)
        try (first | replace h8 := s8 _ _ h8 | replace h8 := h8.same s8 | replace h8 := h8.then s8 | replace h8 := h8.trans s8)
        try (first | replace h9 := s8 _ _ h9 | replace h9 := h9.same s8 | replace h9 := h9.then s8 | replace h9 := h9.trans s8)
        try (first | replace h10 := s8 _ _ h10 | replace h10 := h10.same s8 | replace h10 := h10.then s8 | replace h10 := h10.trans s8)
        try (first | replace h11 := s8 _ _ h11 | replace h11 := h11.same s8 | replace h11 := h11.then s8 | replace h11 := h11.trans s8)
        try (first | replace h6 := s8 _ _ h6 | replace h6 := h6.same s8 | replace h6 := h6.then s8 | replace h6 := h6.trans s8)
        refine ⟨_, h6, ?_, ?_⟩
        · rw [cutV_hi, mi_take, mi_len, List.length_take]
          exact sz (by omega)
        intro q3 m3
        generalize e_q3 : upd H8 q3 _ = H9
        have s9 := new_s m3 e_q3
        have h9 := new_h e_q3
        clear e_q3
        try (first | replace hB := s9 _ _ hB | replace hB := hB.same s9 | replace hB := hB.then s9 | replace hB := hB.trans s9)
        try (first | replace hp' := s9 _ _ hp' | replace hp' := hp'.same s9 | replace hp' := hp'.then s9 | replace hp' := hp'.trans s9)
        try (first | replace kp := s9 _ _ kp | replace kp := kp.same s9 | replace kp := kp.then s9 | replace kp := kp.trans s9)
        try (first | replace kp3 := s9 _ _ kp3 | replace kp3 := kp3.same s9 | replace kp3 := kp3.then s9 | replace kp3 := kp3.trans s9)
        try (first | replace h6 := s9 _ _ h6 | replace h6 := h6.same s9 | replace h6 := h6.then s9 | replace h6 := h6.trans s9)
        try (first | replace h8 := s9 _ _ h8 | replace h8 := h8.same s9 | replace h8 := h8.then s9 | replace h8 := h8.trans s9)
        try (first | replace h9 := s9 _ _ h9 | replace h9 := h9.same s9 | replace h9 := h9.then s9 | replace h9 := h9.trans s9)
        try (first | replace h10 := s9 _ _ h10 | replace h10 := h10.same s9 | replace h10 := h10.then s9 | replace h10 := h10.trans s9)
        try (first | replace h11 := s9 _ _ h11 | replace h11 := h11.same s9 | replace h11 := h11.then s9 | replace h11 := h11.trans s9)
        try (first | replace h6 := s9 _ _ h6 | replace h6 := h6.same s9 | replace h6 := h6.then s9 | replace h6 := h6.trans s9)
        try (first | replace h8 := s9 _ _ h8 | replace h8 := h8.same s9 | replace h8 := h8.then s9 | replace h8 := h8.trans s9)
        refine ⟨_, hp', ?_⟩
        intro q4 m4
        generalize e_q4 : upd H9 q4 _ = H10
        have s10 := new_s m4 e_q4
        have h10 := new_h e_q4
        clear e_q4
        try (first | replace hB := s10 _ _ hB | replace hB := hB.same s10 | replace hB := hB.then s10 | replace hB := hB.trans s10)
        try (first | replace hp' := s10 _ _ hp' | replace hp' := hp'.same s10 | replace hp' := hp'.then s10 | replace hp' := hp'.trans s10)
        try (first | replace kp := s10 _ _ kp | replace kp := kp.same s10 | replace kp := kp.then s10 | replace kp := kp.trans s10)
        try (first | replace kp3 := s10 _ _ kp3 | replace kp3 := kp3.same s10 | replace kp3 := kp3.then s10 | replace kp3 := kp3.trans s10)
        try (first | replace h6 := s10 _ _ h6 | replace h6 := h6.same s10 | replace h6 := h6.then s10 | replace h6 := h6.trans s10)
        try (first | replace h8 := s10 _ _ h8 | replace h8 := h8.same s10 | replace h8 := h8.then s10 | replace h8 := h8.trans s10)
        try (first | replace h9 := s10 _ _ h9 | replace h9 := h9.same s10 | replace h9 := h9.then s10 | replace h9 := h9.trans s10)
        try (first | replace h10 := s10 _ _ h10 | replace h10 := h10.same s10 | replace h10 := h10.then s10 | replace h10 := h10.trans s10)
        try (first | replace h11 := s10 _ _ h11 | replace h11 := h11.same s10 | replace h11 := h11.then s10 | replace h11 := h11.trans s10)
        try (first | replace h6 := s10 _ _ h6 | replace h6 := h6.same s10 | replace h6 := h6.then s10 | replace h6 := h6.trans s10)
        try (first | replace h8 := s10 _ _ h8 | replace h8 := h8.same s10 | replace h8 := h8.then s10 | replace h8 := h8.trans s10)
        try (first | replace h9 := s10 _ _ h9 | replace h9 := h9.same s10 | replace h9 := h9.then s10 | replace h9 := h9.trans s10)
        refine ⟨_, h9, ?_, ?_⟩
        · rw [cutV_hi, cutV_lo, mi_take, mi_drop, List.length_append, mi_len, mi_len, List.length_take, List.length_drop]
          exact sz (show _ + 1 + _ ≤ _ by omega)
        intro q5 m5
        generalize e_q5 : upd H10 q5 _ = H11
        have s11 := new_s m5 e_q5
        have h11 := new_h e_q5
        clear e_q5
        try (first | replace hB := s11 _ _ hB | replace hB := hB.same s11 | replace hB := hB.then s11 | replace hB := hB.trans s11)
        try (first | replace hp' := s11 _ _ hp' | replace hp' := hp'.same s11 | replace hp' := hp'.then s11 | replace hp' := hp'.trans s11)
        try (first | replace kp := s11 _ _ kp | replace kp := kp.same s11 | replace kp := kp.then s11 | replace kp := kp.trans s11)
        try (first | replace kp3 := s11 _ _ kp3 | replace kp3 := kp3.same s11 | replace kp3 := kp3.then s11 | replace kp3 := kp3.trans s11)
        try (first | replace h6 := s11 _ _ h6 | replace h6 := h6.same s11 | replace h6 := h6.then s11 | replace h6 := h6.trans s11)
        try (first | replace h8 := s11 _ _ h8 | replace h8 := h8.same s11 | replace h8 := h8.then s11 | replace h8 := h8.trans s11)
        try (first | replace h9 := s11 _ _ h9 | replace h9 := h9.same s11 | replace h9 := h9.then s11 | replace h9 := h9.trans s11)
        try (first | replace h10 := s11 _ _ h10 | replace h10 := h10.same s11 | replace h10 := h10.then s11 | replace h10 := h10.trans s11)
        try (first | replace h11 := s11 _ _ h11 | replace h11 := h11.same s11 | replace h11 := h11.then s11 | replace h11 := h11.trans s11)
        try (first | replace h6 := s11 _ _ h6 | replace h6 := h6.same s11 | replace h6 := h6.then s11 | replace h6 := h6.trans s11)
        try (first | replace h8 := s11 _ _ h8 | replace h8 := h8.same s11 | replace h8 := h8.then s11 | replace h8 := h8.trans s11)
        try (first | replace h9 := s11 _ _ h9 | replace h9 := h9.same s11 | replace h9 := h9.then s11 | replace h9 := h9.trans s11)
        try (first | replace h10 := s11 _ _ h10 | replace h10 := h10.same s11 | replace h10 := h10.then s11 | replace h10 := h10.trans s11)
        refine ⟨l'.take an ++ [y] ++ l'.drop (an), ?_, fun x hx => ?_, ?_, kp3⟩
        · rw [cutV_hi, cutV_lo, mi_take, mi_drop, mi_app, mi_app]
          rfl
        · rcases List.mem_append.mp hx with hx | hx
          · rcases List.mem_append.mp hx with hx | hx
            · exact tk x hx
            · rw [List.mem_singleton.mp hx]
              exact ⟨y0, y1⟩
          · exact dr _ x hx
        · rw [List.length_append, List.length_append, List.length_take, List.length_drop]
          show _ + 1 + _ ≤ _
          omega
      clear ka kb
      refine ifI fun A B ka kb => ?_
      walk_at "rd"
      refine ite_i (fun e => ka _ ?_) (fun e => kb _ ?_)
      · walk_at "rd"
        refine ⟨_, hp', ?_⟩
        intro q1 m1
        generalize e_q1 : upd H5 q1 _ = H6
        have s6 := new_s m1 e_q1
        have h6 := new_h e_q1
        clear e_q1
        try (first | replace hB := s6 _ _ hB | replace hB := hB.same s6 | replace hB := hB.then s6 | replace hB := hB.trans s6)
        try (first | replace hp' := s6 _ _ hp' | replace hp' := hp'.same s6 | replace hp' := hp'.then s6 | replace hp' := hp'.trans s6)
        try (first | replace kp := s6 _ _ kp | replace kp := kp.same s6 | replace kp := kp.then s6 | replace kp := kp.trans s6)
        try (first | replace kp3 := s6 _ _ kp3 | replace kp3 := kp3.same s6 | replace kp3 := kp3.then s6 | replace kp3 := kp3.trans s6)
        try (first | replace h6 := s6 _ _ h6 | replace h6 := h6.same s6 | replace h6 := h6.then s6 | replace h6 := h6.trans s6)
        try (first | replace h8 := s6 _ _ h8 | replace h8 := h8.same s6 | replace h8 := h8.then s6 | replace h8 := h8.trans s6)
        try (first | replace h9 := s6 _ _ h9 | replace h9 := h9.same s6 | replace h9 := h9.then s6 | replace h9 := h9.trans s6)
        try (first | replace h10 := s6 _ _ h10 | replace h10 := h10.same s6 | replace h10 := h10.then s6 | replace h10 := h10.trans s6)
        try (first | replace h11 := s6 _ _ h11 | replace h11 := h11.same s6 | replace h11 := h11.then s6 | replace h11 := h11.trans s6)
        try (first | replace h6 := s6 _ _ h6 | replace h6 := h6.same s6 | replace h6 := h6.then s6 | replace h6 := h6.trans s6)
        try (first | replace h8 := s6 _ _ h8 | replace h8 := h8.same s6 | replace h8 := h8.then s6 | replace h8 := h8.trans s6)
        try (first | replace h9 := s6 _ _ h9 | replace h9 := h9.same s6 | replace h9 := h9.then s6 | replace h9 := h9.trans s6)
        try (first | replace h10 := s6 _ _ h10 | replace h10 := h10.same s6 | replace h10 := h10.then s6 | replace h10 := h10.trans s6)
        try (first | replace h11 := s6 _ _ h11 | replace h11 := h11.same s6 | replace h11 := h11.then s6 | replace h11 := h11.trans s6)
        refine ⟨_, hp', ?_⟩
        intro q4 m4
        generalize e_q4 : upd H6 q4 _ = H10
        have s10 := new_s m4 e_q4
        have h10 := new_h e_q4
        clear e_q4
        try (first | replace hB := s10 _ _ hB | replace hB := hB.same s10 | replace hB := hB.then s10 | replace hB := hB.trans s10)
        try (first | replace hp' := s10 _ _ hp' | replace hp' := hp'.same s10 | replace hp' := hp'.then s10 | replace hp' := hp'.trans s10)
        try (first | replace kp := s10 _ _ kp | replace kp := kp.same s10 | replace kp := kp.then s10 | replace kp := kp.trans s10)
        try (first | replace kp3 := s10 _ _ kp3 | replace kp3 := kp3.same s10 | replace kp3 := kp3.then s10 | replace kp3 := kp3.trans s10)
        try (first | replace h6 := s10 _ _ h6 | replace h6 := h6.same s10 | replace h6 := h6.then s10 | replace h6 := h6.trans s10)
        try (first | replace h8 := s10 _ _ h8 | replace h8 := h8.same s10 | replace h8 := h8.then s10 | replace h8 := h8.trans s10)
        try (first | replace h9 := s10 _ _ h9 | replace h9 := h9.same s10 | replace h9 := h9.then s10 | replace h9 := h9.trans s10)
        try (first | replace h10 := s10 _ _ h10 | replace h10 := h10.same s10 | replace h10 := h10.then s10 | replace h10 := h10.trans s10)
        try (first | replace h11 := s10 _ _ h11 | replace h11 := h11.same s10 | replace h11 := h11.then s10 | replace h11 := h11.trans s10)
        try (first | replace h6 := s10 _ _ h6 | replace h6 := h6.same s10 | replace h6 := h6.then s10 | replace h6 := h6.trans s10)
        try (first | replace h8 := s10 _ _ h8 | replace h8 := h8.same s10 | replace h8 := h8.then s10 | replace h8 := h8.trans s10)
        try (first | replace h9 := s10 _ _ h9 | replace h9 := h9.same s10 | replace h9 := h9.then s10 | replace h9 := h9.trans s10)
        try (first | replace h10 := s10 _ _ h10 | replace h10 := h10.same s10 | replace h10 := h10.then s10 | replace h10 := h10.trans s10)
        try (first | replace h11 := s10 _ _ h11 | replace h11 := h11.same s10 | replace h11 := h11.then s10 | replace h11 := h11.trans s10)
        try (first | replace h6 := s10 _ _ h6 | replace h6 := h6.same s10 | replace h6 := h6.then s10 | replace h6 := h6.trans s10)
        refine ⟨_, h6, ?_, ?_⟩
        · rw [show ((an : Int) + 1) = ((an + 1 : Nat) : Int) by omega, cutV_hi, cutV_lo, mi_take, mi_drop, mi_len, mi_len, List.length_take, List.length_drop]
          exact sz (show _ + _ ≤ _ by omega)
        intro q5 m5
        generalize e_q5 : upd H10 q5 _ = H11
        have s11 := new_s m5 e_q5
        have h11 := new_h e_q5
        clear e_q5
        try (first | replace hB := s11 _ _ hB | replace hB := hB.same s11 | replace hB := hB.then s11 | replace hB := hB.trans s11)
        try (first | replace hp' := s11 _ _ hp' | replace hp' := hp'.same s11 | replace hp' := hp'.then s11 | replace hp' := hp'.trans s11)
        try (first | replace kp := s11 _ _ kp | replace kp := kp.same s11 | replace kp := kp.then s11 | replace kp := kp.trans s11)
        try (first | replace kp3 := s11 _ _ kp3 | replace kp3 := kp3.same s11 | replace kp3 := kp3.then s11 | replace kp3 := kp3.trans s11)
        try (first | replace h6 := s11 _ _ h6 | replace h6 := h6.same s11 | replace h6 := h6.then s11 | replace h6 := h6.trans s11)
        try (first | replace h8 := s11 _ _ h8 | replace h8 := h8.same s11 | replace h8 := h8.then s11 | replace h8 := h8.trans s11)
        try (first | replace h9 := s11 _ _ h9 | replace h9 := h9.same s11 | replace h9 := h9.then s11 | replace h9 := h9.trans s11)
        try (first | replace h10 := s11 _ _ h10 | replace h10 := h10.same s11 | replace h10 := h10.then s11 | replace h10 := h10.trans s11)
        try (first | replace h11 := s11 _ _ h11 | replace h11 := h11.same s11 | replace h11 := h11.then s11 | replace h11 := h11.trans s11)
        try (first | replace h6 := s11 _ _ h6 | replace h6 := h6.same s11 | replace h6 := h6.then s11 | replace h6 := h6.trans s11)
        try (first | replace h8 := s11 _ _ h8 | replace h8 := h8.same s11 | replace h8 := h8.then s11 | replace h8 := h8.trans s11)
        try (first | replace h9 := s11 _ _ h9 | replace h9 := h9.same s11 | replace h9 := h9.then s11 | replace h9 := h9.trans s11)
        try (first | replace h10 := s11 _ _ h10 | replace h10 := h10.same s11 | replace h10 := h10.then s11 | replace h10 := h10.trans s11)
        try (first | replace h11 := s11 _ _ h11 | replace h11 := h11.same s11 | replace h11 := h11.then s11 | replace h11 := h11.trans s11)
        try (first | replace h6 := s11 _ _ h6 | replace h6 := h6.same s11 | replace h6 := h6.then s11 | replace h6 := h6.trans s11)
        try (first | replace h10 := s11 _ _ h10 | replace h10 := h10.same s11 | replace h10 := h10.then s11 | replace h10 := h10.trans s11)
        refine ⟨l'.take an ++ l'.drop (an + 1), ?_, fun x hx => ?_, ?_, kp3⟩
        · rw [show ((an : Int) + 1) = ((an + 1 : Nat) : Int) by omega, cutV_hi, cutV_lo, mi_take, mi_drop, mi_app]
        · rcases List.mem_append.mp hx with hx | hx
          · exact tk x hx
          · exact dr _ x hx
        · rw [List.length_append, List.length_take, List.length_drop]
          omega
      clear ka kb
      walk_at "rd"
      refine ⟨_, hp', ?_⟩
      intro q1 m1
      generalize e_q1 : upd H5 q1 _ = H6
      have s6 := new_s m1 e_q1
      have h6 := new_h e_q1
      clear e_q1
      try (first | replace hB := s6 _ _ hB | replace hB := hB.same s6 | replace hB := hB.then s6 | replace hB := hB.trans s6)
      try (first | replace hp' := s6 _ _ hp' | replace hp' := hp'.same s6 | replace hp' := hp'.then s6 | replace hp' := hp'.trans s6)
      try (first | replace kp := s6 _ _ kp | replace kp := kp.same s6 | replace kp := kp.then s6 | replace kp := kp.trans s6)
      try (first | replace kp3 := s6 _ _ kp3 | replace kp3 := kp3.same s6 | replace kp3 := kp3.then s6 | replace kp3 := kp3.trans s6)
      try (first | replace h6 := s6 _ _ h6 | replace h6 := h6.same s6 | replace h6 := h6.then s6 | replace h6 := h6.trans s6)
      try (first | replace h8 := s6 _ _ h8 | replace h8 := h8.same s6 | replace h8 := h8.then s6 | replace h8 := h8.trans s6)
      try (first | replace h9 := s6 _ _ h9 | replace h9 := h9.same s6 | replace h9 := h9.then s6 | replace h9 := h9.trans s6)
      try (first | replace h10 := s6 _ _ h10 | replace h10 := h10.same s6 | replace h10 := h10.then s6 | replace h10 := h10.trans s6)
      try (first | replace h11 := s6 _ _ h11 | replace h11 := h11.same s6 | replace h11 := h11.then s6 | replace h11 := h11.trans s6)
      try (first | replace h6 := s6 _ _ h6 | replace h6 := h6.same s6 | replace h6 := h6.then s6 | replace h6 := h6.trans s6)
      try (first | replace h8 := s6 _ _ h8 | replace h8 := h8.same s6 | replace h8 := h8.then s6 | replace h8 := h8.trans s6)
      try (first | replace h9 := s6 _ _ h9 | replace h9 := h9.same s6 | replace h9 := h9.then s6 | replace h9 := h9.trans s6)
      try (first | replace h10 := s6 _ _ h10 | replace h10 := h10.same s6 | replace h10 := h10.then s6 | replace h10 := h10.trans s6)
      try (first | replace h11 := s6 _ _ h11 | replace h11 := h11.same s6 | replace h11 := h11.then s6 | replace h11 := h11.trans s6)
      try (first | replace h6 := s6 _ _ h6 | replace h6 := h6.same s6 | replace h6 := h6.then s6 | replace h6 := h6.trans s6)
      try (first | replace h10 := s6 _ _ h10 | replace h10 := h10.same s6 | replace h10 := h10.then s6 | replace h10 := h10.trans s6)
      try (first | replace h11 := s6 _ _ h11 | replace h11 := h11.same s6 | replace h11 := h11.then s6 | replace h11 := h11.trans s6)
      refine ⟨l'.take an, by rw [cutV_hi, mi_take], tk, ?_, kp3⟩
      rw [List.length_take]
      omega
    rintro σ H3 ⟨p', l', v2, v3, v4, rfl, hp', hb', hl', kp3⟩
    refine k1 _ _ ?_
    walk_at "rd"
    exact q p' l' H3 kp3 hp' hb' (by omega)
end
section
variable {P : Program} {w : World} {K : PySem.W.Frag} {mg : Str → Option Value} {base : Heap}
theorem ok__law_ask_back (S : Src K mg "_law_ask_back" s__law_ask_back) (T : Tx P K mg) (C_Lot_M_back : CalMD P w K mg base (L2.CX P w) 4 (He.ga K "Lot") "back" ["self", "row", "start"] (.int 0) "start" (spBack K))  : Cal P w K mg base (L2.CX P w) 5 "_law_ask_back" ["_law_lot", "_law_row_here", "_law_at", "_law_plainly"] (spAskBack K) := by
  refine S.calX sc__law_ask_back bn__law_ask_back (fun vs H Q E h => ?_) (fun f cdv A outer s H vs Q E hr h => ?_)
  · first | (obtain ⟨rfl, _⟩ := h; rfl) | (obtain ⟨_, rfl, _⟩ := h; rfl) | (obtain ⟨_, _, rfl, _⟩ := h; rfl) | (obtain ⟨_, _, _, rfl, _⟩ := h; rfl) | (obtain ⟨_, _, _, _, rfl, _⟩ := h; rfl) | (obtain ⟨_, _, _, _, _, rfl, _⟩ := h; rfl) | (obtain ⟨_, _, _, _, _, _, rfl, _⟩ := h; rfl) | (obtain ⟨_, _, _, _, _, _, _, rfl, _⟩ := h; rfl) | (obtain ⟨_, _, _, _, _, _, _, _, rfl, _⟩ := h; rfl) | (obtain ⟨_, _, _, _, _, _, _, _, _, rfl, _⟩ := h; rfl)
  · skip
    obtain ⟨f_Lot_M_back, fd_Lot_M_back, ds_Lot_M_back, m_Lot_M_back, b_Lot_M_back, vd_Lot_M_back, bd_Lot_M_back, kl_Lot_M_back, G_Lot_M_back⟩ := C_Lot_M_back.ex
    refine ⟨_, (pss_cons (ps_if (pt_val (pv 3)) (pss_one (ps_ret (pe_meth (pv 0) T.cl_Lot m_Lot_M_back G_Lot_M_back (hr.mono (by decide)) bd_Lot_M_back vd_Lot_M_back (passes_call (takes_of rfl rfl rfl rfl) (fun _ _ _ _ z => z)) (Fx.pa_c (pv 1) pa_nil)))) pss_nil)
        (pss_cons (ps_if (pt_cmpR op_eq (pe_op op_mod (Fx.pe_cTy Fx.int_I T.b_int (by decide +kernel) (Fx.pa_c (pv 2) pa_nil)) pe_int) pe_int (nomark _)) (pss_one (ps_ret (Fx.pe_methK (pv 0) T.cl_Lot m_Lot_M_back G_Lot_M_back (hr.mono (by decide)) b_Lot_M_back kl_Lot_M_back (passes_call (takes_of rfl rfl rfl rfl) (fun _ _ _ _ z => z)) (Fx.pa_c (pv 1) pa_nil) (pk_cons (pv 2) pk_nil)))) pss_nil)
        (pss_one (ps_ret (pe_meth (pv 0) T.cl_Lot m_Lot_M_back G_Lot_M_back (hr.mono (by decide)) b_Lot_M_back .nil (passes_call (takes_of rfl rfl rfl rfl) (fun _ _ _ _ z => z)) (Fx.pa_c (pv 1) (Fx.pa_c (pv 2) pa_nil))))))), ?_⟩
    obtain ⟨x, p, ws, l, st, c, rfl, hc, hL, hp, hb, hl, qs, qn⟩ := h
    have hL0 := hL
    obtain ⟨ok, dx, pw, hx, hw⟩ := hL0
    refine seqI fun K1 k1 => ?_
    walk_at "rd"
    refine ite_i (fun h1 => ?_) (fun h1 => k1 _ _ ?_)
    · have := hc h1
      subst this
      exact ⟨_, _, hx, rfl, x, p, ws, l, 0, rfl, hL, hp, hb, hl, qs, qn⟩
    clear k1
    have sp : spBack K [.ref x, .ref p, .int st] H Q E := ⟨x, p, ws, l, st, rfl, hL, hp, hb, hl, qs, qn⟩
    refine seqI fun K1 k1 => ?_
    walk_at "rd"
    exact ⟨by decide, ite_i (fun _ => ⟨dx, _, hx, rfl, sp⟩) (fun _ => k1 _ _ (by walk_at "rd"; exact ⟨dx, _, hx, rfl, sp⟩))⟩
end
section
variable {P : Program} {w : World} {K : PySem.W.Frag} {mg : Str → Option Value} {base : Heap}
theorem ok__law_integer_Q (S : Src K mg "_law_integer" s__law_integer) (T : Tx P K mg)  : CalQ P w K mg base 1 "_law_integer" ["_law_thing"] spInteger := by
  refine S.calQ sc__law_integer bn__law_integer (fun vs H Q E h => ?_) (fun f cdv A outer s H vs Q p hr h => ?_)
  · first | (obtain ⟨rfl, _⟩ := h; rfl) | (obtain ⟨_, rfl, _⟩ := h; rfl) | (obtain ⟨_, _, rfl, _⟩ := h; rfl) | (obtain ⟨_, _, _, rfl, _⟩ := h; rfl) | (obtain ⟨_, _, _, _, rfl, _⟩ := h; rfl) | (obtain ⟨_, _, _, _, _, rfl, _⟩ := h; rfl) | (obtain ⟨_, _, _, _, _, _, rfl, _⟩ := h; rfl) | (obtain ⟨_, _, _, _, _, _, _, rfl, _⟩ := h; rfl) | (obtain ⟨_, _, _, _, _, _, _, _, rfl, _⟩ := h; rfl) | (obtain ⟨_, _, _, _, _, _, _, _, _, rfl, _⟩ := h; rfl)
  · skip
    refine ⟨_, (pss_one (ps_ret (pe_and (Fx.pe_cB Fx.is_B T.b_isinstance (by decide +kernel) (Fx.pa_c (pv 0) (Fx.pa_c (pe_bltn (v := .ty "int") (by rfl) T.b_int (by decide +kernel) rfl) pa_nil))) (pe_one (pe_not (Fx.pe_cB Fx.is_B T.b_isinstance (by decide +kernel) (Fx.pa_c (pv 0) (Fx.pa_c (pe_bltn (v := .ty "bool") (by rfl) T.b_bool (by decide +kernel) rfl) pa_nil)))))))), ?_⟩
    obtain ⟨i, rfl, q⟩ := h
    walk_at "rd"
    exact q
end
section
variable {P : Program} {w : World} {K : PySem.W.Frag} {mg : Str → Option Value} {base : Heap}
theorem ok__law_back (S : Src K mg "_law_back" s__law_back) (T : Tx P K mg) (C__law_ask_back : Cal P w K mg base (L2.CX P w) 5 "_law_ask_back" ["_law_lot", "_law_row_here", "_law_at", "_law_plainly"] (spAskBack K)) (C__law_integer_Q : CalQ P w K mg base 1 "_law_integer" ["_law_thing"] spInteger) (C__law_integer : Cal P w K mg base CX0 1 "_law_integer" ["_law_thing"] spInteger)  : Cal P w K mg base CX0 6 "_law_back" ["_law_lot", "_law_row_here", "_law_at", "_law_plainly"] (spLBack K) := by
  refine S.cal sc__law_back bn__law_back (fun vs H Q E h => ?_) (fun f cdv A outer s H vs Q E hr h => ?_)
  · first | (obtain ⟨rfl, _⟩ := h; rfl) | (obtain ⟨_, rfl, _⟩ := h; rfl) | (obtain ⟨_, _, rfl, _⟩ := h; rfl) | (obtain ⟨_, _, _, rfl, _⟩ := h; rfl) | (obtain ⟨_, _, _, _, rfl, _⟩ := h; rfl) | (obtain ⟨_, _, _, _, _, rfl, _⟩ := h; rfl) | (obtain ⟨_, _, _, _, _, _, rfl, _⟩ := h; rfl) | (obtain ⟨_, _, _, _, _, _, _, rfl, _⟩ := h; rfl) | (obtain ⟨_, _, _, _, _, _, _, _, rfl, _⟩ := h; rfl) | (obtain ⟨_, _, _, _, _, _, _, _, _, rfl, _⟩ := h; rfl)
  · skip
    refine ⟨_, (pss_cons (ps_try_as (i := 5) rfl rfl sc__law_back.nd rfl rfl ⟨rfl, by decide, Or.inl T.g_FableError⟩ takes0 (fun W pn xe tk _ => (pss_one (ps_set (i := 4) sc__law_back.nd rfl (Or.inl rfl) (Fx.pe_calS C__law_ask_back (hr.mono (by decide)) tk (Fx.pa_c (pv 0) (Fx.pa_c (pv 1) (Fx.pa_c (pv 2) (Fx.pa_c (pv 3) pa_nil)))))))) (fun a oe cls d pn hz hf => (pss_cons (ps_if (PW.pt (pw_or (pt_not (pt_val (Fx.pe_cB (call_isY hz hf) T.b_isinstance (by decide +kernel) (Fx.pa_c (pv 5) (Fx.pa_c (pe_glob (v := .ref (He.ga K "BadText")) rfl T.g_BadText rfl) pa_nil))))) (pw_or (pt_not (pt_val (Fx.pe_cB (call_isY hz hf) T.b_isinstance (by decide +kernel) (Fx.pa_c (pv 5) (Fx.pa_c (pe_bltn (v := .ty "ValueError") (by rfl) T.b_ValueError (by decide +kernel) rfl) pa_nil))))) (pw_or (pt_val (Fx.pe_cB (call_isY hz hf) T.b_isinstance (by decide +kernel) (Fx.pa_c (pv 5) (Fx.pa_c (pe_glob (v := .ref (He.ga K "BadLot")) rfl T.g_BadLot rfl) pa_nil)))) (pw_or1 (pt_val (Fx.pe_cB (call_isY hz hf) T.b_isinstance (by decide +kernel) (Fx.pa_c (pv 5) (Fx.pa_c (pe_glob (v := .ref (He.ga K "TooMany")) rfl T.g_TooMany rfl) pa_nil))))))))) (pss_one (ps_ret (pe_lst (Fx.pa_c pe_str pa_nil)))) pss_nil)
        (pss_cons (ps_if (pt_not (pt_val (Fx.pe_calQ C__law_integer_Q (hr.mono (by decide)) (Fx.pa_c (pe_xf (XC.xfc T.x_BadText) T.x_BadText.noF hz hf (pv 5)) pa_nil)))) (pss_one (ps_ret (pe_lst (Fx.pa_c pe_str pa_nil)))) pss_nil)
        (pss_one (ps_ret (pe_lst (Fx.pa_c pe_str (Fx.pa_c (pe_xf (XC.xfc T.x_BadText) T.x_BadText.noF hz hf (pv 5)) pa_nil)))))))))
        (pss_cons (ps_if (PW.pt (pw_or (pt_not (pt_val (Fx.pe_cB Fx.is_B T.b_isinstance (by decide +kernel) (Fx.pa_c (pv 4) (Fx.pa_c (pe_bltn (v := .ty "tuple") (by rfl) T.b_tuple (by decide +kernel) rfl) pa_nil))))) (pw_or1 (pt_cmpR op_ne (Fx.pe_cB Fx.len_T T.b_len (by decide +kernel) (Fx.pa_c (pv 4) pa_nil)) pe_int (nomark _))))) (pss_one (ps_ret (pe_lst (Fx.pa_c pe_str pa_nil)))) pss_nil)
        (pss_cons (ps_if (PW.pt (pw_or (pt_not (pt_val (Fx.pe_cB Fx.is_B T.b_isinstance (by decide +kernel) (Fx.pa_c (pe_ix Fx.ix_T (pv 4) pe_int (fun _ _ => rfl)) (Fx.pa_c (pe_bltn (v := .ty "str") (by rfl) T.b_str (by decide +kernel) rfl) pa_nil))))) (pw_or1 (pt_not (pt_val (Fx.pe_cal C__law_integer (hr.mono (by decide)) pass0 (Fx.pa_c (pe_ix Fx.ix_T (pv 4) pe_int (fun _ _ => rfl)) pa_nil))))))) (pss_one (ps_ret (pe_lst (Fx.pa_c pe_str pa_nil)))) pss_nil)
        (pss_one (ps_ret (pe_lst (Fx.pa_c pe_str (Fx.pa_c (pv 4) pa_nil)))))))), ?_⟩
    obtain ⟨x, p, ws, l, st, c, rfl, hc, hL, hp, hb, hl, qs, qn⟩ := h
    refine seqI fun K1 k1 => ?_
    refine ⟨_, rfl, _, rfl, _, rfl, _, rfl, x, p, ws, l, st, c, rfl, hc, hL, hp, hb, hl, fun t b e q1 H1 s1 n1 h1 => ?_, fun e d H1 s1 nd hd => ?_⟩
    · refine k1 _ _ ?_
      clear k1
      refine seqI fun K1 k1 => ?_
      walk_at "rd"
      refine ⟨_, tyv_tup h1, _, kb_tuple_tuple, ?_⟩
      rw [if_neg (by decide)]
      refine ⟨_, h1, ?_⟩
      have l2 : (([V.str t, V.int (b : Nat)].length : Nat) : Int) = 2 := rfl
      rw [if_pos l2]
      refine k1 _ _ ?_
      clear k1
      refine seqI fun K1 k1 => ?_
      walk_at "rd"
      refine ⟨_, h1, _, rfl, _, tyv_str, _, kb_str_str, ?_⟩
      rw [if_neg (by decide)]
      refine ⟨_, h1, _, rfl, b, rfl, _, rfl, ?_⟩
      rw [if_neg (by decide)]
      refine k1 _ _ ?_
      clear k1
      walk_at "rd"
      exact ⟨by decide, fun r nr => qs t b e r q1 _ (s1.trans (same_new nr)) (s1.free nr) upd_same (same_new nr _ _ h1)⟩
    · clear k1
      refine ⟨true, T.m_BadText, fun _ a0 na => ?_, fun z => Bool.noConfusion z⟩
      have efs : ∃ fs, H1 d = some (.xd fs) := ⟨_, hd⟩
      walk_at "rd"
      simp only [rIsY, tXf]
      walk_at "rd"
      simp only [Value.ref.injEq, exists_eq_left', clsVal, Option.some.injEq, T.e_BadText, T.k_BadText_VE, T.k_BadText_BadText, T.k_BadText_BadLot, T.k_BadText_TooMany, true_and, Bool.not_true, Bool.false_eq_true, if_false, hd, HO.xd.injEq, exists_eq_left, exists_eq', List.lookup, beq_self_eq_true]
      refine ⟨st, rfl, _, rfl, ?_⟩
      rw [if_neg (by decide)]
      exact ⟨_, hd, _, rfl, by decide, fun r nr => qn e r _ (s1.trans (same_new nr)) (s1.free nr) upd_same⟩
end
section
variable {P : Program} {w : World} {K : PySem.W.Frag} {mg : Str → Option Value} {base : Heap}
theorem ok__law_agrees (S : Src K mg "_law_agrees" s__law_agrees) (T : Tx P K mg) (C__law_read : Cal P w K mg base CX0 3 "_law_read" ["_law_words", "_law_row_here", "_law_at"] spReadL) (C__law_back : Cal P w K mg base CX0 6 "_law_back" ["_law_lot", "_law_row_here", "_law_at", "_law_plainly"] (spLBack K))  : Cal P w K mg base CX0 7 "_law_agrees" ["_law_lot", "_law_words", "_law_row_here", "_law_at", "_law_plainly"] (spAgrees K) := by
  refine S.cal sc__law_agrees bn__law_agrees (fun vs H Q E h => ?_) (fun f cdv A outer s H vs Q E hr h => ?_)
  · first | (obtain ⟨rfl, _⟩ := h; rfl) | (obtain ⟨_, rfl, _⟩ := h; rfl) | (obtain ⟨_, _, rfl, _⟩ := h; rfl) | (obtain ⟨_, _, _, rfl, _⟩ := h; rfl) | (obtain ⟨_, _, _, _, rfl, _⟩ := h; rfl) | (obtain ⟨_, _, _, _, _, rfl, _⟩ := h; rfl) | (obtain ⟨_, _, _, _, _, _, rfl, _⟩ := h; rfl) | (obtain ⟨_, _, _, _, _, _, _, rfl, _⟩ := h; rfl) | (obtain ⟨_, _, _, _, _, _, _, _, rfl, _⟩ := h; rfl) | (obtain ⟨_, _, _, _, _, _, _, _, _, rfl, _⟩ := h; rfl)
  · skip
    refine ⟨_, (pss_cons (ps_set (i := 5) sc__law_agrees.nd rfl (Or.inl rfl) (Fx.pe_cal C__law_read (hr.mono (by decide)) pass0 (Fx.pa_c (pv 1) (Fx.pa_c (pv 2) (Fx.pa_c (pv 3) pa_nil)))))
        (pss_cons (ps_set (i := 6) sc__law_agrees.nd rfl (Or.inl rfl) (Fx.pe_cTy Fx.list_L T.b_list (by decide +kernel) (Fx.pa_c (pv 2) pa_nil)))
        (pss_cons (ps_set (i := 7) sc__law_agrees.nd rfl (Or.inl rfl) (pe_lst (Fx.pa_c (Fx.pe_cal C__law_back (hr.mono (by decide)) pass0 (Fx.pa_c (pv 0) (Fx.pa_c (pv 2) (Fx.pa_c (pv 3) (Fx.pa_c (pv 4) pa_nil))))) (Fx.pa_c (Fx.pe_cal C__law_back (hr.mono (by decide)) pass0 (Fx.pa_c (pv 0) (Fx.pa_c (Fx.pe_cTy Fx.tup_L T.b_tuple (by decide +kernel) (Fx.pa_c (pv 2) pa_nil)) (Fx.pa_c (pv 3) (Fx.pa_c (pv 4) pa_nil))))) pa_nil))))
        (pss_cons (ps_if (pt_cmpR (Fx.ne_LL hr.units) (pv 2) (pv 6) (nomark _)) (pss_one (ps_ret pe_bl)) pss_nil)
        (pss_cons (ps_if (pt_cmpR op_isNon (pv 5) pe_non (nomark _)) (pss_one (ps_ret (pe_cmpR (op_eqD hr.units) (pv 7) (pe_lst (Fx.pa_c (pe_lst (Fx.pa_c pe_str (Fx.pa_c (pv 3) pa_nil))) (Fx.pa_c (pe_lst (Fx.pa_c pe_str (Fx.pa_c (pv 3) pa_nil))) pa_nil))) (nomark _)))) pss_nil)
        (pss_one (ps_ret (pe_cmpR (op_eqD hr.units) (pv 7) (pe_lst (Fx.pa_c (pe_lst (Fx.pa_c pe_str (Fx.pa_c (pv 5) pa_nil))) (Fx.pa_c (pe_lst (Fx.pa_c pe_str (Fx.pa_c (pv 5) pa_nil))) pa_nil))) (nomark _))))))))), ?_⟩
    obtain ⟨x, pw, p, ws, l, st, c, rfl, hc, hL, hpw, hp, hb, hl, q⟩ := h
    refine seqI fun K1 k1 => ?_
    walk_at "rd"
    refine ⟨pw, p, ws, l, st, rfl, hpw, hp, hL.1, hb, hl, fun v H1 s1 hv => k1 _ _ ?_⟩
    clear k1
    replace hp := s1 _ _ hp
    replace hL := hL.same s1
    refine seqI fun K1 k1 => ?_
    walk_at "rd"
    refine ⟨_, hp, ?_⟩
    intro p2 n2
    generalize e_p2 : upd H1 p2 _ = H2
    have s2 := new_s n2 e_p2
    have h2 := new_h e_p2
    clear e_p2
    try (first | replace hp := s2 _ _ hp | replace hp := hp.same s2 | replace hp := hp.then s2 | replace hp := hp.trans s2)
    try (first | replace hL := s2 _ _ hL | replace hL := hL.same s2 | replace hL := hL.then s2 | replace hL := hL.trans s2)
    try (first | replace s1 := s2 _ _ s1 | replace s1 := s1.same s2 | replace s1 := s1.then s2 | replace s1 := s1.trans s2)
    refine k1 _ _ ?_
    clear k1
    replace hv : optR H2 v (rdR ws l st) := by
      cases e : rdR ws l st with
      | none => rw [e] at hv; exact hv
      | some y =>
        rw [e] at hv
        obtain ⟨q1, e1, e2⟩ := hv
        exact ⟨q1, e1, s2 _ _ e2⟩
    have fl : (mi l).all isF = true := by
      rw [List.all_map]
      exact List.all_eq_true.mpr fun _ _ => rfl
    cases e : rdR ws l st with
    | none =>
      rw [e] at hv
      have ev : v = .non := hv
      subst ev
      refine seqI fun K1 k1 => ?_
      walk_at "rd"
      refine ⟨x, p, ws, l, st, c, rfl, hc, hL, .inl hp, hb, hl, fun t b k => (by rw [e] at k; cases k), fun _ r1 H3 s3 n3 h3 => ⟨_, s3 _ _ hp, ?_⟩⟩
      try (first | replace hp := s3 _ _ hp | replace hp := hp.same s3 | replace hp := hp.then s3 | replace hp := hp.trans s3)
      try (first | replace hL := s3 _ _ hL | replace hL := hL.same s3 | replace hL := hL.then s3 | replace hL := hL.trans s3)
      try (first | replace s1 := s3 _ _ s1 | replace s1 := s1.same s3 | replace s1 := s1.then s3 | replace s1 := s1.trans s3)
      try (first | replace h2 := s3 _ _ h2 | replace h2 := h2.same s3 | replace h2 := h2.then s3 | replace h2 := h2.trans s3)
      try (first | replace h2 := s3 _ _ h2 | replace h2 := h2.same s3 | replace h2 := h2.then s3 | replace h2 := h2.trans s3)
      intro pt nt
      generalize e_pt : upd H3 pt _ = H4
      have s4 := new_s nt e_pt
      have h4 := new_h e_pt
      clear e_pt
      try (first | replace hp := s4 _ _ hp | replace hp := hp.same s4 | replace hp := hp.then s4 | replace hp := hp.trans s4)
      try (first | replace hL := s4 _ _ hL | replace hL := hL.same s4 | replace hL := hL.then s4 | replace hL := hL.trans s4)
      try (first | replace s1 := s4 _ _ s1 | replace s1 := s1.same s4 | replace s1 := s1.then s4 | replace s1 := s1.trans s4)
      try (first | replace h2 := s4 _ _ h2 | replace h2 := h2.same s4 | replace h2 := h2.then s4 | replace h2 := h2.trans s4)
      try (first | replace h2 := s4 _ _ h2 | replace h2 := h2.same s4 | replace h2 := h2.then s4 | replace h2 := h2.trans s4)
      try (first | replace h3 := s4 _ _ h3 | replace h3 := h3.same s4 | replace h3 := h3.then s4 | replace h3 := h3.trans s4)
      refine ⟨x, pt, ws, l, st, c, rfl, hc, hL, .inr h4, hb, hl, fun t b k => (by rw [e] at k; cases k), fun _ r2 H5 s5 n5 h5 => ⟨by decide, ?_⟩⟩
      try (first | replace hp := s5 _ _ hp | replace hp := hp.same s5 | replace hp := hp.then s5 | replace hp := hp.trans s5)
      try (first | replace hL := s5 _ _ hL | replace hL := hL.same s5 | replace hL := hL.then s5 | replace hL := hL.trans s5)
      try (first | replace s1 := s5 _ _ s1 | replace s1 := s1.same s5 | replace s1 := s1.then s5 | replace s1 := s1.trans s5)
      try (first | replace h2 := s5 _ _ h2 | replace h2 := h2.same s5 | replace h2 := h2.then s5 | replace h2 := h2.trans s5)
      try (first | replace h2 := s5 _ _ h2 | replace h2 := h2.same s5 | replace h2 := h2.then s5 | replace h2 := h2.trans s5)
      try (first | replace h3 := s5 _ _ h3 | replace h3 := h3.same s5 | replace h3 := h3.then s5 | replace h3 := h3.trans s5)
      try (first | replace h4 := s5 _ _ h4 | replace h4 := h4.same s5 | replace h4 := h4.then s5 | replace h4 := h4.trans s5)
      intro r3 n6
      generalize e_r3 : upd H5 r3 _ = H6
      have s6 := new_s n6 e_r3
      have h6 := new_h e_r3
      clear e_r3
      try (first | replace hp := s6 _ _ hp | replace hp := hp.same s6 | replace hp := hp.then s6 | replace hp := hp.trans s6)
      try (first | replace hL := s6 _ _ hL | replace hL := hL.same s6 | replace hL := hL.then s6 | replace hL := hL.trans s6)
      try (first | replace s1 := s6 _ _ s1 | replace s1 := s1.same s6 | replace s1 := s1.then s6 | replace s1 := s1.trans s6)
      try (first | replace h2 := s6 _ _ h2 | replace h2 := h2.same s6 | replace h2 := h2.then s6 | replace h2 := h2.trans s6)
      try (first | replace h2 := s6 _ _ h2 | replace h2 := h2.same s6 | replace h2 := h2.then s6 | replace h2 := h2.trans s6)
      try (first | replace h3 := s6 _ _ h3 | replace h3 := h3.same s6 | replace h3 := h3.then s6 | replace h3 := h3.trans s6)
      try (first | replace h4 := s6 _ _ h4 | replace h4 := h4.same s6 | replace h4 := h4.then s6 | replace h4 := h4.trans s6)
      try (first | replace h5 := s6 _ _ h5 | replace h5 := h5.same s6 | replace h5 := h5.then s6 | replace h5 := h5.trans s6)
      refine k1 _ _ ?_
      clear k1
      refine seqI fun K1 k1 => ?_
      walk_at "rd"
      refine ⟨_, hp, _, h2, fl, fl, ?_⟩
      rw [if_pos rfl]
      refine k1 _ _ ?_
      clear k1
      walk_at "rd"
      refine ⟨by decide, ?_⟩
      have so : Same H H6 := s1
      intro u1 m1
      generalize e_u1 : upd H6 u1 _ = G1
      have t1 := new_s m1 e_u1
      have g1 := new_h e_u1
      clear e_u1
      try (first | replace h3 := t1 _ _ h3 | replace h3 := h3.same t1 | replace h3 := h3.then t1 | replace h3 := h3.trans t1)
      try (first | replace h5 := t1 _ _ h5 | replace h5 := h5.same t1 | replace h5 := h5.then t1 | replace h5 := h5.trans t1)
      try (first | replace h6 := t1 _ _ h6 | replace h6 := h6.same t1 | replace h6 := h6.then t1 | replace h6 := h6.trans t1)
      try (first | replace so := t1 _ _ so | replace so := so.same t1 | replace so := so.then t1 | replace so := so.trans t1)
      refine ⟨by decide, ?_⟩
      intro u2 m2
      generalize e_u2 : upd G1 u2 _ = G2
      have t2 := new_s m2 e_u2
      have g2 := new_h e_u2
      clear e_u2
      try (first | replace h3 := t2 _ _ h3 | replace h3 := h3.same t2 | replace h3 := h3.then t2 | replace h3 := h3.trans t2)
      try (first | replace h5 := t2 _ _ h5 | replace h5 := h5.same t2 | replace h5 := h5.then t2 | replace h5 := h5.trans t2)
      try (first | replace h6 := t2 _ _ h6 | replace h6 := h6.same t2 | replace h6 := h6.then t2 | replace h6 := h6.trans t2)
      try (first | replace so := t2 _ _ so | replace so := so.same t2 | replace so := so.then t2 | replace so := so.trans t2)
      try (first | replace g1 := t2 _ _ g1 | replace g1 := g1.same t2 | replace g1 := g1.then t2 | replace g1 := g1.trans t2)
      refine ⟨by decide, ?_⟩
      intro u3 m3
      generalize e_u3 : upd G2 u3 _ = G3
      have t3 := new_s m3 e_u3
      have g3 := new_h e_u3
      clear e_u3
      try (first | replace h3 := t3 _ _ h3 | replace h3 := h3.same t3 | replace h3 := h3.then t3 | replace h3 := h3.trans t3)
      try (first | replace h5 := t3 _ _ h5 | replace h5 := h5.same t3 | replace h5 := h5.then t3 | replace h5 := h5.trans t3)
      try (first | replace h6 := t3 _ _ h6 | replace h6 := h6.same t3 | replace h6 := h6.then t3 | replace h6 := h6.trans t3)
      try (first | replace so := t3 _ _ so | replace so := so.same t3 | replace so := so.then t3 | replace so := so.trans t3)
      try (first | replace g1 := t3 _ _ g1 | replace g1 := g1.same t3 | replace g1 := g1.then t3 | replace g1 := g1.trans t3)
      try (first | replace g2 := t3 _ _ g2 | replace g2 := g2.same t3 | replace g2 := g2.then t3 | replace g2 := g2.trans t3)
      have flr : [V.str "refused", V.int (st : Int)].all isF = true := by
        rw [List.all_cons, ref_ok]
        rfl
      have eqr : PyData.eqv (.list [.list ([V.str "refused", V.int (st : Int)].map datV), .list ([V.str "refused", V.int (st : Int)].map datV)]) (.list [.list ([V.str "refused", V.int (st : Int)].map datV), .list ([V.str "refused", V.int (st : Int)].map datV)]) = true := by
        simp only [PyData.eqv, PyData.eqvAll, eqvAll_dat flr flr, decide_true, Bool.and_self]
      have sh : SeqAt.shaped (.list [.list ([V.str "refused", V.int (st : Int)].map datV), .list ([V.str "refused", V.int (st : Int)].map datV)]) = true := by
        obtain ⟨c1, c2⟩ := lay_flat flr
        generalize [V.str "refused", V.int (st : Int)].map datV = L at *
        simp [SeqAt.shaped, PyData.canLay0, PyData.depth, PyData.canLayAll0, PyData.depthAll, c1, c2]
      have e := q G3 so
      rw [← eqr] at e
      exact ⟨_, _, .lst (.inl (.inl h6)) (.cons (.lst (.inl (.inl h3)) (dpAll_dat flr)) (.cons (.lst (.inl (.inl h5)) (dpAll_dat flr)) .nil)), .lst (.inl (.inl g3)) (.cons (.lst (.inl (.inl g1)) (dpAll_dat flr)) (.cons (.lst (.inl (.inl g2)) (dpAll_dat flr)) .nil)), sh, sh, e⟩
    | some y =>
      obtain ⟨t, bh⟩ := y
      rw [e] at hv
      obtain ⟨qv, rfl, hqv⟩ := hv
      refine seqI fun K1 k1 => ?_
      walk_at "rd"
      refine ⟨x, p, ws, l, st, c, rfl, hc, hL, .inl hp, hb, hl, fun t b k => ?_, fun k => (by rw [e] at k; cases k)⟩
      intro r1 q1 H3 s3 n3 h3 h31
      rw [e] at k
      cases k
      refine ⟨_, s3 _ _ hp, ?_⟩
      try (first | replace hp := s3 _ _ hp | replace hp := hp.same s3 | replace hp := hp.then s3 | replace hp := hp.trans s3)
      try (first | replace hL := s3 _ _ hL | replace hL := hL.same s3 | replace hL := hL.then s3 | replace hL := hL.trans s3)
      try (first | replace s1 := s3 _ _ s1 | replace s1 := s1.same s3 | replace s1 := s1.then s3 | replace s1 := s1.trans s3)
      try (first | replace h2 := s3 _ _ h2 | replace h2 := h2.same s3 | replace h2 := h2.then s3 | replace h2 := h2.trans s3)
      try (first | replace hqv := s3 _ _ hqv | replace hqv := hqv.same s3 | replace hqv := hqv.then s3 | replace hqv := hqv.trans s3)
      intro pt nt
      generalize e_pt : upd H3 pt _ = H4
      have s4 := new_s nt e_pt
      have h4 := new_h e_pt
      clear e_pt
      try (first | replace hp := s4 _ _ hp | replace hp := hp.same s4 | replace hp := hp.then s4 | replace hp := hp.trans s4)
      try (first | replace hL := s4 _ _ hL | replace hL := hL.same s4 | replace hL := hL.then s4 | replace hL := hL.trans s4)
      try (first | replace s1 := s4 _ _ s1 | replace s1 := s1.same s4 | replace s1 := s1.then s4 | replace s1 := s1.trans s4)
      try (first | replace h2 := s4 _ _ h2 | replace h2 := h2.same s4 | replace h2 := h2.then s4 | replace h2 := h2.trans s4)
      try (first | replace hqv := s4 _ _ hqv | replace hqv := hqv.same s4 | replace hqv := hqv.then s4 | replace hqv := hqv.trans s4)
      try (first | replace h3 := s4 _ _ h3 | replace h3 := h3.same s4 | replace h3 := h3.then s4 | replace h3 := h3.trans s4)
      try (first | replace h31 := s4 _ _ h31 | replace h31 := h31.same s4 | replace h31 := h31.then s4 | replace h31 := h31.trans s4)
      refine ⟨x, pt, ws, l, st, c, rfl, hc, hL, .inr h4, hb, hl, fun t b k => ?_, fun k => (by rw [e] at k; cases k)⟩
      intro r2 q2 H5 s5 n5 h5 h52
      rw [e] at k
      cases k
      refine ⟨by decide, ?_⟩
      try (first | replace hp := s5 _ _ hp | replace hp := hp.same s5 | replace hp := hp.then s5 | replace hp := hp.trans s5)
      try (first | replace hL := s5 _ _ hL | replace hL := hL.same s5 | replace hL := hL.then s5 | replace hL := hL.trans s5)
      try (first | replace s1 := s5 _ _ s1 | replace s1 := s1.same s5 | replace s1 := s1.then s5 | replace s1 := s1.trans s5)
      try (first | replace h2 := s5 _ _ h2 | replace h2 := h2.same s5 | replace h2 := h2.then s5 | replace h2 := h2.trans s5)
      try (first | replace hqv := s5 _ _ hqv | replace hqv := hqv.same s5 | replace hqv := hqv.then s5 | replace hqv := hqv.trans s5)
      try (first | replace h3 := s5 _ _ h3 | replace h3 := h3.same s5 | replace h3 := h3.then s5 | replace h3 := h3.trans s5)
      try (first | replace h31 := s5 _ _ h31 | replace h31 := h31.same s5 | replace h31 := h31.then s5 | replace h31 := h31.trans s5)
      try (first | replace h4 := s5 _ _ h4 | replace h4 := h4.same s5 | replace h4 := h4.then s5 | replace h4 := h4.trans s5)
      intro r3 n6
      generalize e_r3 : upd H5 r3 _ = H6
      have s6 := new_s n6 e_r3
      have h6 := new_h e_r3
      clear e_r3
      try (first | replace hp := s6 _ _ hp | replace hp := hp.same s6 | replace hp := hp.then s6 | replace hp := hp.trans s6)
      try (first | replace hL := s6 _ _ hL | replace hL := hL.same s6 | replace hL := hL.then s6 | replace hL := hL.trans s6)
      try (first | replace s1 := s6 _ _ s1 | replace s1 := s1.same s6 | replace s1 := s1.then s6 | replace s1 := s1.trans s6)
      try (first | replace h2 := s6 _ _ h2 | replace h2 := h2.same s6 | replace h2 := h2.then s6 | replace h2 := h2.trans s6)
      try (first | replace hqv := s6 _ _ hqv | replace hqv := hqv.same s6 | replace hqv := hqv.then s6 | replace hqv := hqv.trans s6)
      try (first | replace h3 := s6 _ _ h3 | replace h3 := h3.same s6 | replace h3 := h3.then s6 | replace h3 := h3.trans s6)
      try (first | replace h31 := s6 _ _ h31 | replace h31 := h31.same s6 | replace h31 := h31.then s6 | replace h31 := h31.trans s6)
      try (first | replace h4 := s6 _ _ h4 | replace h4 := h4.same s6 | replace h4 := h4.then s6 | replace h4 := h4.trans s6)
      try (first | replace h5 := s6 _ _ h5 | replace h5 := h5.same s6 | replace h5 := h5.then s6 | replace h5 := h5.trans s6)
      try (first | replace h52 := s6 _ _ h52 | replace h52 := h52.same s6 | replace h52 := h52.then s6 | replace h52 := h52.trans s6)
      refine k1 _ _ ?_
      clear k1
      refine seqI fun K1 k1 => ?_
      walk_at "rd"
      refine ⟨_, hp, _, h2, fl, fl, ?_⟩
      rw [if_pos rfl]
      refine k1 _ _ ?_
      clear k1
      refine seqI fun K1 k1 => ?_
      walk_at "rd"
      refine k1 _ _ ?_
      clear k1
      walk_at "rd"
      refine ⟨by decide, ?_⟩
      have so : Same H H6 := s1
      intro u1 m1
      generalize e_u1 : upd H6 u1 _ = G1
      have t1 := new_s m1 e_u1
      have g1 := new_h e_u1
      clear e_u1
      try (first | replace h3 := t1 _ _ h3 | replace h3 := h3.same t1 | replace h3 := h3.then t1 | replace h3 := h3.trans t1)
      try (first | replace h5 := t1 _ _ h5 | replace h5 := h5.same t1 | replace h5 := h5.then t1 | replace h5 := h5.trans t1)
      try (first | replace h6 := t1 _ _ h6 | replace h6 := h6.same t1 | replace h6 := h6.then t1 | replace h6 := h6.trans t1)
      try (first | replace so := t1 _ _ so | replace so := so.same t1 | replace so := so.then t1 | replace so := so.trans t1)
      try (first | replace h31 := t1 _ _ h31 | replace h31 := h31.same t1 | replace h31 := h31.then t1 | replace h31 := h31.trans t1)
      try (first | replace h52 := t1 _ _ h52 | replace h52 := h52.same t1 | replace h52 := h52.then t1 | replace h52 := h52.trans t1)
      try (first | replace hqv := t1 _ _ hqv | replace hqv := hqv.same t1 | replace hqv := hqv.then t1 | replace hqv := hqv.trans t1)
      refine ⟨by decide, ?_⟩
      intro u2 m2
      generalize e_u2 : upd G1 u2 _ = G2
      have t2 := new_s m2 e_u2
      have g2 := new_h e_u2
      clear e_u2
      try (first | replace h3 := t2 _ _ h3 | replace h3 := h3.same t2 | replace h3 := h3.then t2 | replace h3 := h3.trans t2)
      try (first | replace h5 := t2 _ _ h5 | replace h5 := h5.same t2 | replace h5 := h5.then t2 | replace h5 := h5.trans t2)
      try (first | replace h6 := t2 _ _ h6 | replace h6 := h6.same t2 | replace h6 := h6.then t2 | replace h6 := h6.trans t2)
      try (first | replace so := t2 _ _ so | replace so := so.same t2 | replace so := so.then t2 | replace so := so.trans t2)
      try (first | replace h31 := t2 _ _ h31 | replace h31 := h31.same t2 | replace h31 := h31.then t2 | replace h31 := h31.trans t2)
      try (first | replace h52 := t2 _ _ h52 | replace h52 := h52.same t2 | replace h52 := h52.then t2 | replace h52 := h52.trans t2)
      try (first | replace hqv := t2 _ _ hqv | replace hqv := hqv.same t2 | replace hqv := hqv.then t2 | replace hqv := hqv.trans t2)
      try (first | replace g1 := t2 _ _ g1 | replace g1 := g1.same t2 | replace g1 := g1.then t2 | replace g1 := g1.trans t2)
      refine ⟨by decide, ?_⟩
      intro u3 m3
      generalize e_u3 : upd G2 u3 _ = G3
      have t3 := new_s m3 e_u3
      have g3 := new_h e_u3
      clear e_u3
      try (first | replace h3 := t3 _ _ h3 | replace h3 := h3.same t3 | replace h3 := h3.then t3 | replace h3 := h3.trans t3)
      try (first | replace h5 := t3 _ _ h5 | replace h5 := h5.same t3 | replace h5 := h5.then t3 | replace h5 := h5.trans t3)
      try (first | replace h6 := t3 _ _ h6 | replace h6 := h6.same t3 | replace h6 := h6.then t3 | replace h6 := h6.trans t3)
      try (first | replace so := t3 _ _ so | replace so := so.same t3 | replace so := so.then t3 | replace so := so.trans t3)
      try (first | replace h31 := t3 _ _ h31 | replace h31 := h31.same t3 | replace h31 := h31.then t3 | replace h31 := h31.trans t3)
      try (first | replace h52 := t3 _ _ h52 | replace h52 := h52.same t3 | replace h52 := h52.then t3 | replace h52 := h52.trans t3)
      try (first | replace hqv := t3 _ _ hqv | replace hqv := hqv.same t3 | replace hqv := hqv.then t3 | replace hqv := hqv.trans t3)
      try (first | replace g1 := t3 _ _ g1 | replace g1 := g1.same t3 | replace g1 := g1.then t3 | replace g1 := g1.trans t3)
      try (first | replace g2 := t3 _ _ g2 | replace g2 := g2.same t3 | replace g2 := g2.then t3 | replace g2 := g2.trans t3)
      have hR : strF t = true := rdR_F hL.1 hb e
      have flr : [V.str t, V.int (bh : Int)].all isF = true := by
        show (PyData.strOk t && _) = true
        rw [show PyData.strOk t = true from hR]
        rfl
      have told_ok : isF (.str "told") = true := by decide +kernel
      have eqr : PyData.eqv (.list [.list [datV (.str "told"), .tuple ([V.str t, V.int (bh : Int)].map datV)], .list [datV (.str "told"), .tuple ([V.str t, V.int (bh : Int)].map datV)]]) (.list [.list [datV (.str "told"), .tuple ([V.str t, V.int (bh : Int)].map datV)], .list [datV (.str "told"), .tuple ([V.str t, V.int (bh : Int)].map datV)]]) = true := by
        simp only [PyData.eqv, PyData.eqvAll, eqvAll_dat flr flr, eqv_dat told_ok told_ok, decide_true, Bool.and_self]
      have sh : SeqAt.shaped (.list [.list [datV (.str "told"), .tuple ([V.str t, V.int (bh : Int)].map datV)], .list [datV (.str "told"), .tuple ([V.str t, V.int (bh : Int)].map datV)]]) = true := by
        obtain ⟨c1, c2⟩ := lay_flat flr
        obtain ⟨c3, c4⟩ := lay_flat (xs := [V.str "told"]) (by rw [List.all_cons, told_ok]; rfl)
        generalize [V.str t, V.int (bh : Int)].map datV = L at *
        simp only [List.map_cons, List.map_nil, PyData.canLayAll0, PyData.depthAll, Bool.and_true] at c3 c4
        generalize datV (V.str "told") = M at *
        simp [SeqAt.shaped, PyData.canLay0, PyData.depth, PyData.canLayAll0, PyData.depthAll, c1, c2, c3]
        omega
      have ee := q G3 so
      rw [← eqr] at ee
      have dT : Dp K G3 (.ref qv) (.tuple ([V.str t, V.int (bh : Int)].map datV)) := .tup (.inl (.inl hqv)) (dpAll_dat flr)
      have dq : ∀ qq, G3 qq = some (.tup [.str t, .int (bh : Nat)]) → Dp K G3 (.ref qq) (.tuple ([V.str t, V.int (bh : Int)].map datV)) := fun qq k => .tup (.inl (.inl k)) (dpAll_dat flr)
      exact ⟨_, _, .lst (.inl (.inl h6)) (.cons (.lst (.inl (.inl h3)) (.cons (dp_dat told_ok) (.cons (dq _ h31) .nil))) (.cons (.lst (.inl (.inl h5)) (.cons (dp_dat told_ok) (.cons (dq _ h52) .nil))) .nil)), .lst (.inl (.inl g3)) (.cons (.lst (.inl (.inl g1)) (.cons (dp_dat told_ok) (.cons (dq _ hqv) .nil))) (.cons (.lst (.inl (.inl g2)) (.cons (dp_dat told_ok) (.cons (dq _ hqv) .nil))) .nil)), sh, sh, ee⟩
end
section
variable {P : Program} {w : World} {K : PySem.W.Frag} {mg : Str → Option Value} {base : Heap}
theorem ok_law {f0 : Addr} {fd : FuncData} (F : FunD K "law" "law" (defArgs s_law) (defBody s_law) (defScope s_law) [] [] f0 fd) (T : Tx P K mg) (C__law_bag : Cal P w K mg base CX0 1 "_law_bag" ["_law_script"] (spBag K)) (C__law_lot_words : Cal P w K mg base CX0 3 "_law_lot_words" ["_law_bag_here"] spLotWords) (C_Lot_MU_initU : CalID P w K mg base (L2.CX P w) 3 (He.ga K "Lot") ["self", "words"] (.ref (He.dflAt ("Lot", some "__init__") 0 K)) (spLot K)) (C__law_row : Cal P w K mg base CX0 5 "_law_row" ["_law_bag_here", "_law_words"] spRowB) (C__law_spoilt : Cal P w K mg base CX0 2 "_law_spoilt" ["_law_bag_here", "_law_row_here"] spSpoiltB) (C__law_pick : Cal P w K mg base CX0 1 "_law_pick" ["_law_bag_here", "_law_many"] spPick) (C__law_agrees : Cal P w K mg base CX0 7 "_law_agrees" ["_law_lot", "_law_words", "_law_row_here", "_law_at", "_law_plainly"] (spAgrees K))  : FnOk P w K mg base CX0 8 f0 fd ["_law_script"] (spLaw K) := by
  refine law0 F sc_law (fun vs H Q E h => ?_) (fun f cdv A outer s H vs Q E hr h => ?_)
  · first | (obtain ⟨rfl, _⟩ := h; rfl) | (obtain ⟨_, rfl, _⟩ := h; rfl) | (obtain ⟨_, _, rfl, _⟩ := h; rfl) | (obtain ⟨_, _, _, rfl, _⟩ := h; rfl) | (obtain ⟨_, _, _, _, rfl, _⟩ := h; rfl) | (obtain ⟨_, _, _, _, _, rfl, _⟩ := h; rfl) | (obtain ⟨_, _, _, _, _, _, rfl, _⟩ := h; rfl) | (obtain ⟨_, _, _, _, _, _, _, rfl, _⟩ := h; rfl) | (obtain ⟨_, _, _, _, _, _, _, _, rfl, _⟩ := h; rfl) | (obtain ⟨_, _, _, _, _, _, _, _, _, rfl, _⟩ := h; rfl)
  · skip
    refine ⟨_, (pss_cons (ps_set (i := 1) sc_law.nd rfl (Or.inr rfl) (Fx.pe_cal C__law_bag (hr.mono (by decide)) pass0 (Fx.pa_c (pv 0) pa_nil)))
        (pss_cons (ps_set (i := 2) sc_law.nd rfl (Or.inl rfl) (Fx.pe_cal C__law_lot_words (hr.mono (by decide)) pass0 (Fx.pa_c (pv 1) pa_nil)))
        (pss_cons (ps_set (i := 3) sc_law.nd rfl (Or.inl rfl) (Fx.pe_mk C_Lot_MU_initU.full (hr.mono (by decide)) T.g_Lot Fx.passX (Fx.pa_c (pv 2) pa_nil)))
        (pss_cons (ps_set (i := 4) sc_law.nd rfl (Or.inl rfl) (Fx.pe_cal C__law_spoilt (hr.mono (by decide)) pass0 (Fx.pa_c (pv 1) (Fx.pa_c (Fx.pe_cal C__law_row (hr.mono (by decide)) pass0 (Fx.pa_c (pv 1) (Fx.pa_c (pv 2) pa_nil))) pa_nil))))
        (pss_cons (ps_setLc (i := 5) (own := [("_law_step", 9)]) rfl sc_law.nd rfl rfl (sw_true rfl rfl rfl (by decide +kernel)) (pi_range1 rfl T.b_range (Fx.pa_c (Fx.pe_cal C__law_pick (hr.mono (by decide)) pass0 (Fx.pa_c (pv 1) (Fx.pa_c pe_int pa_nil))) pa_nil)) (blkOk_by (N := N_law) (sc := defScope s_law) (by decide +kernel)) (fun _ _ _ _ _ => (pg_name (i := 9) sc_law.nd rfl (Or.inl rfl))) (fun _ _ _ _ _ => pts_nil) (fun _ _ _ _ _ => (Fx.pe_cal C__law_pick (hr.mono (by decide)) pass0 (Fx.pa_c (pv 1) (Fx.pa_c pe_int pa_nil)))))
        (pss_cons (ps_set (i := 6) sc_law.nd rfl (Or.inl rfl) (pe_op op_cat (pe_op op_cat (pv 5) (pv 4)) (pe_lc (own := [("_law_step", 9)]) rfl sc_law.nd (pi_range1 rfl T.b_range (Fx.pa_c (Fx.pe_cal C__law_pick (hr.mono (by decide)) pass0 (Fx.pa_c (pv 1) (Fx.pa_c pe_int pa_nil))) pa_nil)) (blkOk_by (N := N_law) (sc := defScope s_law) (by decide +kernel)) (fun _ _ _ _ _ => (pg_name (i := 9) sc_law.nd rfl (Or.inl rfl))) (fun _ _ _ _ _ => pts_nil) (fun _ _ _ _ _ => (Fx.pe_cal C__law_pick (hr.mono (by decide)) pass0 (Fx.pa_c (pv 1) (Fx.pa_c pe_int pa_nil)))))))
        (pss_cons (ps_set (i := 7) sc_law.nd rfl (Or.inl rfl) (pe_lst (Fx.pa_c (Fx.pe_cB Fx.len_L T.b_len (by decide +kernel) (Fx.pa_c (pv 5) pa_nil)) (Fx.pa_c pe_int (Fx.pa_c (Fx.pe_cal C__law_pick (hr.mono (by decide)) pass0 (Fx.pa_c (pv 1) (Fx.pa_c (pe_op op_add (Fx.pe_cB Fx.len_L T.b_len (by decide +kernel) (Fx.pa_c (pv 6) pa_nil)) pe_int) pa_nil))) (Fx.pa_c (Fx.pe_cB Fx.len_L T.b_len (by decide +kernel) (Fx.pa_c (pv 6) pa_nil)) pa_nil))))))
        (pss_cons (ps_if (pt_cmpR op_le (Fx.pe_cB Fx.len_L T.b_len (by decide +kernel) (Fx.pa_c (pv 6) pa_nil)) pe_int (nomark _)) (pss_one (ps_set (i := 7) sc_law.nd rfl (Or.inl rfl) (pe_op op_cat (pv 7) (pe_listRg rfl rfl T.b_list (prg_1 rfl T.b_range (pe_op op_add (Fx.pe_cB Fx.len_L T.b_len (by decide +kernel) (Fx.pa_c (pv 6) pa_nil)) pe_int)))))) pss_nil)
        (pss_cons (ps_for PassesOwn.never rfl (pi_list (pv 7)) (pg_name (i := 8) sc_law.nd rfl (Or.inl rfl)) (pss_one (ps_if (PW.pt (pw_or (pt_not (pt_val (Fx.pe_cal C__law_agrees (hr.mono (by decide)) pass0 (Fx.pa_c (pv 3) (Fx.pa_c (pv 2) (Fx.pa_c (pv 6) (Fx.pa_c (pv 8) (Fx.pa_c pe_bl pa_nil)))))))) (pw_or1 (pt_not (pt_val (Fx.pe_cal C__law_agrees (hr.mono (by decide)) pass0 (Fx.pa_c (Fx.pe_mkD0 C_Lot_MU_initU (hr.mono (by decide)) T.g_Lot Fx.passX) (Fx.pa_c (pe_lst pa_nil) (Fx.pa_c (pv 6) (Fx.pa_c (pv 8) (Fx.pa_c pe_bl pa_nil))))))))))) (pss_one (ps_ret pe_bl)) pss_nil)))
        (pss_one (ps_ret (pe_and (Fx.pe_cal C__law_agrees (hr.mono (by decide)) pass0 (Fx.pa_c (pv 3) (Fx.pa_c (pv 2) (Fx.pa_c (pv 4) (Fx.pa_c pe_int (Fx.pa_c pe_bl pa_nil)))))) (pe_one (Fx.pe_cal C__law_agrees (hr.mono (by decide)) pass0 (Fx.pa_c (pv 3) (Fx.pa_c (pv 2) (Fx.pa_c (pv 6) (Fx.pa_c (Fx.pe_cB Fx.len_L T.b_len (by decide +kernel) (Fx.pa_c (pv 5) pa_nil)) (Fx.pa_c pe_bl pa_nil))))))))))))))))))), ?_⟩
    obtain ⟨a, ns, rfl, hS, hlen, q⟩ := h
    refine seqI fun K1 k1 => ?_
    walk_at "rd"
    refine ⟨a, ns, rfl, hS, hlen, fun b H1 s1 n1 B1 => k1 _ _ ?_⟩
    clear k1 s1 n1
    refine seqI fun K1 k1 => ?_
    walk_at "rd"
    refine ⟨b, rfl, B1, fun pw ws H2 kp2 nw hw ok => k1 _ _ ?_⟩
    clear k1
    replace B1 := Kp.bag kp2
    refine seqI fun K1 k1 => ?_
    walk_at "rd"
    refine mk_lot (.inl (.inl (.inl hw))) (by have := ok.lt; omega) ok.ok fun ys hy => ?_
    obtain rfl := dist_self ok hy
    refine ⟨fun _ x H3 s3 L => k1 _ _ ?_, fun h => absurd ok.lt (by omega)⟩
    clear k1 hy
    try (first | replace B1 := s3 _ _ B1 | replace B1 := B1.same s3 | replace B1 := B1.then s3 | replace B1 := B1.trans s3)
    try (first | replace hw := s3 _ _ hw | replace hw := hw.same s3 | replace hw := hw.then s3 | replace hw := hw.trans s3)
    refine seqI fun K1 k1 => ?_
    walk_at "rd"
    refine ⟨b, pw, _, rfl, B1, hw, ok, fun p1 l1 H4 kp4 n4 h4 o1 m1 => ?_⟩
    try (first | replace hw := Kp.lst kp4 B1 hw | replace hw := Kp.tup kp4 B1 hw | replace hw := Kp.ins kp4 B1 hw | replace hw := hw.kp B1 kp4 | replace hw := Kp.trans hw kp4)
    try (first | replace L := Kp.lst kp4 B1 L | replace L := Kp.tup kp4 B1 L | replace L := Kp.ins kp4 B1 L | replace L := L.kp B1 kp4 | replace L := Kp.trans L kp4)
    replace B1 := Kp.bag kp4
    refine ⟨b, p1, l1, rfl, B1, h4, o1, m1, fun p2 l2 H5 kp5 h5 o2 m2 => k1 _ _ ?_⟩
    clear k1
    try (first | replace hw := Kp.lst kp5 B1 hw | replace hw := Kp.tup kp5 B1 hw | replace hw := Kp.ins kp5 B1 hw | replace hw := hw.kp B1 kp5 | replace hw := Kp.trans hw kp5)
    try (first | replace L := Kp.lst kp5 B1 L | replace L := Kp.tup kp5 B1 L | replace L := Kp.ins kp5 B1 L | replace L := L.kp B1 kp5 | replace L := Kp.trans L kp5)
    replace B1 := Kp.bag kp5
    clear h4 n4
    have pickB : ∀ (H6 : Hp) (Q1 : VK) (m : Int), Kp b H5 H6 → 0 ≤ m → m ≤ 10 → (∀ p1 l1 H7, Kp b H6 H7 → H6 p1 = none → H7 p1 = some (.lst (mi l1)) → ByOk l1 → l1.length ≤ 10 → Q1 (.ref p1) H7) → True := fun _ _ _ _ _ _ _ => trivial
    refine seqI fun K1 k1 => ?_
    walk_at "rd"
    refine ⟨_, rfl, b, 4, rfl, B1, by decide, by decide, fun m H6 m0 m1 kp6 => ?_⟩
    try (first | replace hw := Kp.lst kp6 B1 hw | replace hw := Kp.tup kp6 B1 hw | replace hw := Kp.ins kp6 B1 hw | replace hw := hw.kp B1 kp6 | replace hw := Kp.trans hw kp6)
    try (first | replace L := Kp.lst kp6 B1 L | replace L := Kp.tup kp6 B1 L | replace L := Kp.ins kp6 B1 L | replace L := L.kp B1 kp6 | replace L := Kp.trans L kp6)
    try (first | replace h5 := Kp.lst kp6 B1 h5 | replace h5 := Kp.tup kp6 B1 h5 | replace h5 := Kp.ins kp6 B1 h5 | replace h5 := h5.kp B1 kp6 | replace h5 := Kp.trans h5 kp6)
    replace B1 := Kp.bag kp6
    refine ⟨m, rfl, by omega, by omega, fun D nD => ?_⟩
    refine lc_range (lo := 0) (n := m.toNat) (fun i H7 => ∃ l : List Int, l.length = i ∧ ByOk l ∧ H7 D = some (.lst (mi l)) ∧ Kp b H6 H7) ⟨[], rfl, fun x hx => (by cases hx), upd_same, Kp.put B1 (Kp.refl B1) nD⟩ ?_ ?_
    · rintro i H7 hi ⟨l, ll, ol, hD, kp7⟩
      refine ⟨rfl, ?_⟩
      walk_at "rd"
      refine ⟨b, 256, rfl, kp7.bag, by decide, by decide, fun y H8 y0 y1 kp8 => ⟨_, kp8.lst kp7.bag hD, ?_, l ++ [y], ?_, ol.app fun x hx => (by rw [List.mem_singleton.mp hx]; exact ⟨y0, y1⟩), ?_, Kp.put B1 (kp7.trans kp8) nD⟩⟩
      · rw [mi_len]
        exact Nat.lt_of_lt_of_le (by omega : _ < 2000) (by decide)
      · rw [List.length_append, ll]
        rfl
      · rw [mi_app]
        rfl
    rintro H7 ⟨lf, llf, olf, hf, kp7⟩
    try (first | replace hw := Kp.lst kp7 B1 hw | replace hw := Kp.tup kp7 B1 hw | replace hw := Kp.ins kp7 B1 hw | replace hw := hw.kp B1 kp7 | replace hw := Kp.trans hw kp7)
    try (first | replace L := Kp.lst kp7 B1 L | replace L := Kp.tup kp7 B1 L | replace L := Kp.ins kp7 B1 L | replace L := L.kp B1 kp7 | replace L := Kp.trans L kp7)
    try (first | replace h5 := Kp.lst kp7 B1 h5 | replace h5 := Kp.tup kp7 B1 h5 | replace h5 := Kp.ins kp7 B1 h5 | replace h5 := h5.kp B1 kp7 | replace h5 := Kp.trans h5 kp7)
    replace B1 := Kp.bag kp7
    refine k1 _ _ ?_
    clear k1 pickB
    have B7 := B1
    refine seqI fun K1 k1 => ?_
    walk_at "rd"
    refine ⟨_, hf, _, h5, ?_, ?_⟩
    · rw [mi_len, mi_len]
      exact sz (by omega)
    intro u1 m1
    generalize e_u1 : upd H7 u1 _ = G1
    have t1 := new_s m1 e_u1
    have g1 := new_h e_u1
    clear e_u1
    try (first | replace B1 := t1 _ _ B1 | replace B1 := B1.same t1 | replace B1 := B1.then t1 | replace B1 := B1.trans t1)
    try (first | replace hw := t1 _ _ hw | replace hw := hw.same t1 | replace hw := hw.then t1 | replace hw := hw.trans t1)
    try (first | replace L := t1 _ _ L | replace L := L.same t1 | replace L := L.then t1 | replace L := L.trans t1)
    try (first | replace h5 := t1 _ _ h5 | replace h5 := h5.same t1 | replace h5 := h5.then t1 | replace h5 := h5.trans t1)
    try (first | replace hf := t1 _ _ hf | replace hf := hf.same t1 | replace hf := hf.then t1 | replace hf := hf.trans t1)
    refine ⟨_, rfl, b, 4, rfl, B1, by decide, by decide, fun m H8 m0 m1 kp8 => ?_⟩
    try (first | replace hw := Kp.lst kp8 B1 hw | replace hw := Kp.tup kp8 B1 hw | replace hw := Kp.ins kp8 B1 hw | replace hw := hw.kp B1 kp8 | replace hw := Kp.trans hw kp8)
    try (first | replace L := Kp.lst kp8 B1 L | replace L := Kp.tup kp8 B1 L | replace L := Kp.ins kp8 B1 L | replace L := L.kp B1 kp8 | replace L := Kp.trans L kp8)
    try (first | replace h5 := Kp.lst kp8 B1 h5 | replace h5 := Kp.tup kp8 B1 h5 | replace h5 := Kp.ins kp8 B1 h5 | replace h5 := h5.kp B1 kp8 | replace h5 := Kp.trans h5 kp8)
    try (first | replace hf := Kp.lst kp8 B1 hf | replace hf := Kp.tup kp8 B1 hf | replace hf := Kp.ins kp8 B1 hf | replace hf := hf.kp B1 kp8 | replace hf := Kp.trans hf kp8)
    try (first | replace g1 := Kp.lst kp8 B1 g1 | replace g1 := Kp.tup kp8 B1 g1 | replace g1 := Kp.ins kp8 B1 g1 | replace g1 := g1.kp B1 kp8 | replace g1 := Kp.trans g1 kp8)
    replace B1 := Kp.bag kp8
    refine ⟨m, rfl, by omega, by omega, fun D2 nD2 => ?_⟩
    have B8 := B1
    have kp0 := Kp.refl B8
    refine lc_range (lo := 0) (n := m.toNat) (fun i H9 => ∃ l : List Int, l.length = i ∧ ByOk l ∧ H9 D2 = some (.lst (mi l)) ∧ Kp b H8 H9) ⟨[], rfl, fun x hx => (by cases hx), upd_same, Kp.put B1 kp0 nD2⟩ ?_ ?_
    · rintro i H9 hi ⟨l, ll, ol, hD, kp9⟩
      refine ⟨rfl, ?_⟩
      walk_at "rd"
      refine ⟨b, 256, rfl, kp9.bag, by decide, by decide, fun y H10 y0 y1 kp10 => ⟨_, kp10.lst kp9.bag hD, ?_, l ++ [y], ?_, ol.app fun x hx => (by rw [List.mem_singleton.mp hx]; exact ⟨y0, y1⟩), ?_, Kp.put B8 (kp9.trans kp10) nD2⟩⟩
      · rw [mi_len]
        exact Nat.lt_of_lt_of_le (by omega : _ < 2000) (by decide)
      · rw [List.length_append, ll]
        rfl
      · rw [mi_app]
        rfl
    rintro H9 ⟨lb, llb, olb, hb9, kp9⟩
    try (first | replace hw := Kp.lst kp9 B1 hw | replace hw := Kp.tup kp9 B1 hw | replace hw := Kp.ins kp9 B1 hw | replace hw := hw.kp B1 kp9 | replace hw := Kp.trans hw kp9)
    try (first | replace L := Kp.lst kp9 B1 L | replace L := Kp.tup kp9 B1 L | replace L := Kp.ins kp9 B1 L | replace L := L.kp B1 kp9 | replace L := Kp.trans L kp9)
    try (first | replace h5 := Kp.lst kp9 B1 h5 | replace h5 := Kp.tup kp9 B1 h5 | replace h5 := Kp.ins kp9 B1 h5 | replace h5 := h5.kp B1 kp9 | replace h5 := Kp.trans h5 kp9)
    try (first | replace hf := Kp.lst kp9 B1 hf | replace hf := Kp.tup kp9 B1 hf | replace hf := Kp.ins kp9 B1 hf | replace hf := hf.kp B1 kp9 | replace hf := Kp.trans hf kp9)
    try (first | replace g1 := Kp.lst kp9 B1 g1 | replace g1 := Kp.tup kp9 B1 g1 | replace g1 := Kp.ins kp9 B1 g1 | replace g1 := g1.kp B1 kp9 | replace g1 := Kp.trans g1 kp9)
    replace B1 := Kp.bag kp9
    refine ⟨_, rfl, _, g1, _, hb9, ?_, ?_⟩
    · rw [List.length_append, mi_len, mi_len, mi_len]
      exact sz (by omega)
    rw [← mi_app, ← mi_app]
    have oW := (olf.app o2).app olb
    have lW : (lf ++ l2 ++ lb).length ≤ 2030 := by
      rw [List.length_append, List.length_append]
      omega
    have lF : lf.length ≤ (lf ++ l2 ++ lb).length := by
      rw [List.length_append, List.length_append]
      omega
    generalize lf ++ l2 ++ lb = W at *
    intro u2 m2
    generalize e_u2 : upd H9 u2 _ = G2
    have t2 := new_s m2 e_u2
    have g2 := new_h e_u2
    clear e_u2
    try (first | replace B1 := t2 _ _ B1 | replace B1 := B1.same t2 | replace B1 := B1.then t2 | replace B1 := B1.trans t2)
    try (first | replace hw := t2 _ _ hw | replace hw := hw.same t2 | replace hw := hw.then t2 | replace hw := hw.trans t2)
    try (first | replace L := t2 _ _ L | replace L := L.same t2 | replace L := L.then t2 | replace L := L.trans t2)
    try (first | replace h5 := t2 _ _ h5 | replace h5 := h5.same t2 | replace h5 := h5.then t2 | replace h5 := h5.trans t2)
    try (first | replace hf := t2 _ _ hf | replace hf := hf.same t2 | replace hf := hf.then t2 | replace hf := hf.trans t2)
    refine k1 _ _ ?_
    clear k1
    clear g1 hb9 nD2 kp9 kp8 kp7
    refine seqI fun K1 k1 => ?_
    walk_at "rd"
    refine ⟨_, hf, _, g2, b, _, rfl, B1, by rw [mi_len]; omega, by rw [mi_len]; omega, fun at3 H10 q0 q1 kp10 => ?_⟩
    try (first | replace hw := Kp.lst kp10 B1 hw | replace hw := Kp.tup kp10 B1 hw | replace hw := Kp.ins kp10 B1 hw | replace hw := hw.kp B1 kp10 | replace hw := Kp.trans hw kp10)
    try (first | replace L := Kp.lst kp10 B1 L | replace L := Kp.tup kp10 B1 L | replace L := Kp.ins kp10 B1 L | replace L := L.kp B1 kp10 | replace L := Kp.trans L kp10)
    try (first | replace h5 := Kp.lst kp10 B1 h5 | replace h5 := Kp.tup kp10 B1 h5 | replace h5 := Kp.ins kp10 B1 h5 | replace h5 := h5.kp B1 kp10 | replace h5 := Kp.trans h5 kp10)
    try (first | replace hf := Kp.lst kp10 B1 hf | replace hf := Kp.tup kp10 B1 hf | replace hf := Kp.ins kp10 B1 hf | replace hf := hf.kp B1 kp10 | replace hf := Kp.trans hf kp10)
    try (first | replace g2 := Kp.lst kp10 B1 g2 | replace g2 := Kp.tup kp10 B1 g2 | replace g2 := Kp.ins kp10 B1 g2 | replace g2 := g2.kp B1 kp10 | replace g2 := Kp.trans g2 kp10)
    replace B1 := Kp.bag kp10
    refine ⟨_, g2, by decide, ?_⟩
    intro u3 m3
    generalize e_u3 : upd H10 u3 _ = G3
    have t3 := new_s m3 e_u3
    have g3 := new_h e_u3
    clear e_u3
    try (first | replace B1 := t3 _ _ B1 | replace B1 := B1.same t3 | replace B1 := B1.then t3 | replace B1 := B1.trans t3)
    try (first | replace hw := t3 _ _ hw | replace hw := hw.same t3 | replace hw := hw.then t3 | replace hw := hw.trans t3)
    try (first | replace L := t3 _ _ L | replace L := L.same t3 | replace L := L.then t3 | replace L := L.trans t3)
    try (first | replace h5 := t3 _ _ h5 | replace h5 := h5.same t3 | replace h5 := h5.then t3 | replace h5 := h5.trans t3)
    try (first | replace hf := t3 _ _ hf | replace hf := hf.same t3 | replace hf := hf.then t3 | replace hf := hf.trans t3)
    try (first | replace g2 := t3 _ _ g2 | replace g2 := g2.same t3 | replace g2 := g2.then t3 | replace g2 := g2.trans t3)
    refine k1 _ _ ?_
    clear k1
    rw [mi_len] at q1
    have g3 : ∃ pl : List Int, G3 u3 = some (.lst (mi pl)) ∧ (∀ x ∈ pl, 0 ≤ x) ∧ pl.length ≤ 4 := by
      refine ⟨[lf.length, 0, at3, W.length], ?_, fun x hx => ?_, Nat.le_refl 4⟩
      · rw [g3, mi_len, mi_len]
        rfl
      · simp only [List.mem_cons, List.not_mem_nil, or_false] at hx
        rcases hx with rfl | rfl | rfl | rfl <;> omega
    obtain ⟨pl, g3, pos, lpl⟩ := g3
    have okL := ok
    have agr : ∀ (H11 : Hp) (x1 w1 : Addr) (ws1 : List Str) (st : Nat) (c : Bool) (p1 : Addr) (l1 : List Int) (Q1 : VK), (c = true → st = 0) → Lot K H11 x1 ws1 → H11 w1 = some (.lst (ms ws1)) → H11 p1 = some (.lst (mi l1)) → ByOk l1 → l1.length ≤ 5000 → (∀ H12, Same H11 H12 → Q1 (.bl true) H12) → spAgrees K [.ref x1, .ref w1, .ref p1, .int st, .bl c] H11 Q1 E0 := fun H11 x1 w1 ws1 st c p1 l1 Q1 a1 a2 a3 a4 a5 a6 a7 => ⟨x1, w1, p1, ws1, l1, st, c, rfl, a1, a2, a3, a4, a5, a6, a7⟩
    have hd : ∀ H', SqA K H' (He.dflAt ("Lot", some "__init__") 0 K) (ms []) := by
      obtain ⟨a, ea, h⟩ := tupI_ok T.t_dfl
      cases ea
      exact fun H' => .inr (h H')
    have mk0 : ∀ {H2 : Hp} {Q : Addr → Hp → Prop}, (∀ x H', Same H2 H' → Lot K H' x [] → Q x H') → ∀ (x dx : Addr), H2 x = none → H2 dx = none → dx ≠ x → spLot K [.ref x, .ref (He.dflAt ("Lot", some "__init__") 0 K)] (upd (upd H2 dx (.own x)) x (.ins (He.ga K "Lot") dx [])) (fun v H2 => v = .non ∧ Q x H2) E0 := by
      intro H2 Q hk
      refine mk_lot (zs := []) (hd _) (by decide) (fun z hz => by cases hz) fun ys hy => ?_
      have e : ys = [] := List.eq_nil_iff_forall_not_mem.mpr fun f hf => by
        have := (hy.2.2 f).mp hf
        cases this
      subst e
      exact ⟨fun _ x H' s' L' => hk x H' s' L', fun h => absurd h (by decide)⟩
    refine seqI fun K1 k1 => ?_
    have loop : ∀ (u4 : Addr) (pl : List Int) (v8 v9 : Option V) (H11 : Hp), Same G3 H11 → H11 u4 = some (.lst (mi pl)) → (∀ x ∈ pl, 0 ≤ x) → K1 [some (.ref a), some (.ref b), some (.ref pw), some (.ref x), some (.ref p2), some (.ref D), some (.ref u2), some (.ref u4), v8, v9] H11 := by
      intro u4 pl v8 v9 H11 s11 h4 pos
      refine k1 _ _ ?_
      clear k1
      try (first | replace B1 := s11 _ _ B1 | replace B1 := B1.same s11 | replace B1 := B1.then s11 | replace B1 := B1.trans s11)
      try (first | replace hw := s11 _ _ hw | replace hw := hw.same s11 | replace hw := hw.then s11 | replace hw := hw.trans s11)
      try (first | replace L := s11 _ _ L | replace L := L.same s11 | replace L := L.then s11 | replace L := L.trans s11)
      try (first | replace h5 := s11 _ _ h5 | replace h5 := h5.same s11 | replace h5 := h5.then s11 | replace h5 := h5.trans s11)
      try (first | replace hf := s11 _ _ hf | replace hf := hf.same s11 | replace hf := hf.then s11 | replace hf := hf.trans s11)
      try (first | replace g2 := s11 _ _ g2 | replace g2 := g2.same s11 | replace g2 := g2.then s11 | replace g2 := g2.trans s11)
      try (first | replace g3 := s11 _ _ g3 | replace g3 := g3.same s11 | replace g3 := g3.then s11 | replace g3 := g3.trans s11)
      refine seqI fun K1 k1 => ?_
      refine ⟨_, rfl, u4, rfl, ⟨_, .inl (.inl h4)⟩, for_list (K := K) (a := u4) (xs := mi pl) (fun i σ H' => ∃ v8 v9, σ = [some (.ref a), some (.ref b), some (.ref pw), some (.ref x), some (.ref p2), some (.ref D), some (.ref u2), some (.ref u4), v8, v9] ∧ Same H11 H') ⟨v8, v9, rfl, Same.refl _⟩ (fun i σ H' _ ⟨_, _, _, s⟩ => .inl (.inl (s _ _ h4))) ?_ ?_⟩
      · rintro i y σ H12 hy ⟨v8, v9, rfl, s12⟩
        clear k1
        obtain ⟨n, rfl, hn⟩ := mapI_some hy
        have n0 := pos n (List.mem_of_getElem? hn)
        obtain ⟨m, rfl⟩ : ∃ m : Nat, n = (m : Int) := ⟨n.toNat, by omega⟩
        walk_at "rd"
        refine agr H12 x pw _ m false u2 W _ (fun z => Bool.noConfusion z) (L.same s12) (s12 _ _ hw) (s12 _ _ g2) oW (by omega) fun H13 s13 => ?_
        walk_at "rd"
        have s123 := s12.trans s13
        refine mk0 fun x5 H14 s14 L5 => ⟨by decide, ?_⟩
        intro u5 m5
        generalize e_u5 : upd H14 u5 _ = H15
        have s15 := new_s m5 e_u5
        have h5 := new_h e_u5
        clear e_u5
        try (first | replace L5 := s15 _ _ L5 | replace L5 := L5.same s15 | replace L5 := L5.then s15 | replace L5 := L5.trans s15)
        have sF := (s123.trans s14).trans s15
        refine agr H15 x5 u5 [] m false u2 W _ (fun z => Bool.noConfusion z) L5 h5 (sF _ _ g2) oW (by omega) fun H16 s16 => ?_
        walk_at "rd"
        exact sF.trans s16
      rintro σ H12 ⟨v8, v9, rfl, s12⟩
      refine k1 _ _ ?_
      clear k1
      try (first | replace hw := s12 _ _ hw | replace hw := hw.same s12 | replace hw := hw.then s12 | replace hw := hw.trans s12)
      try (first | replace L := s12 _ _ L | replace L := L.same s12 | replace L := L.then s12 | replace L := L.trans s12)
      try (first | replace h5 := s12 _ _ h5 | replace h5 := h5.same s12 | replace h5 := h5.then s12 | replace h5 := h5.trans s12)
      try (first | replace hf := s12 _ _ hf | replace hf := hf.same s12 | replace hf := hf.then s12 | replace hf := hf.trans s12)
      try (first | replace g2 := s12 _ _ g2 | replace g2 := g2.same s12 | replace g2 := g2.then s12 | replace g2 := g2.trans s12)
      walk_at "rd"
      refine agr H12 x pw _ 0 true p2 l2 _ (fun _ => rfl) L hw h5 o2 (by omega) fun H13 s13 => ?_
      try (first | replace hw := s13 _ _ hw | replace hw := hw.same s13 | replace hw := hw.then s13 | replace hw := hw.trans s13)
      try (first | replace L := s13 _ _ L | replace L := L.same s13 | replace L := L.then s13 | replace L := L.trans s13)
      try (first | replace h5 := s13 _ _ h5 | replace h5 := h5.same s13 | replace h5 := h5.then s13 | replace h5 := h5.trans s13)
      try (first | replace hf := s13 _ _ hf | replace hf := hf.same s13 | replace hf := hf.then s13 | replace hf := hf.trans s13)
      try (first | replace g2 := s13 _ _ g2 | replace g2 := g2.same s13 | replace g2 := g2.then s13 | replace g2 := g2.trans s13)
      walk_at "rd"
      refine ⟨_, hf, ?_⟩
      rw [mi_len]
      exact agr H13 x pw _ lf.length false u2 W _ (fun z => Bool.noConfusion z) L hw g2 oW (by omega) fun H14 s14 => q H14
    refine ifI fun A B ka kb => ?_
    walk_at "rd"
    refine ⟨_, g2, ite_i (fun _ => ka _ ?_) (fun _ => kb _ ?_)⟩
    · walk_at "rd"
      refine ⟨_, g2, ?_, ?_⟩
      · rw [mi_len]
        exact RgOk.of_le (by decide) (by omega) (by decide) (by omega)
      rw [mi_len]
      have er : rgV 0 ((W.length : Int) + 1) = mi ((List.range (W.length + 1)).map fun (i : Nat) => (i : Int)) := by
        unfold rgV
        rw [show (((W.length : Int) + 1) - 0).toNat = W.length + 1 by omega, mi, List.map_map]
        refine List.map_congr_left fun i _ => ?_
        show V.int (0 + (i : Int)) = V.int i
        rw [Int.zero_add]
      rw [er]
      intro u7 m7
      generalize e_u7 : upd G3 u7 _ = G7
      have t7 := new_s m7 e_u7
      have g7 := new_h e_u7
      clear e_u7
      try (first | replace g3 := t7 _ _ g3 | replace g3 := g3.same t7 | replace g3 := g3.then t7 | replace g3 := g3.trans t7)
      refine ⟨_, g3, ?_, ?_⟩
      · rw [mi_len, mi_len, List.length_map, List.length_range]
        exact sz (by omega)
      rw [← mi_app]
      intro u8 m8
      refine loop u8 _ _ _ _ (t7.trans (same_new m8)) upd_same fun x hx => ?_
      rcases List.mem_append.mp hx with hx | hx
      · exact pos x hx
      · obtain ⟨i, _, rfl⟩ := List.mem_map.mp hx
        omega
    · walk_at "rd"
      exact loop u3 pl _ _ G3 (Same.refl _) g3 pos
end
def d_f_Lot_MU_initU : He.DefD := ⟨("Lot", some "__init__"), "__init__", "Lot.__init__", defArgs s_Lot_MU_initU, defBody s_Lot_MU_initU, defScope s_Lot_MU_initU, [.adr (He.dflAt ("Lot", some "__init__") 0)], []⟩
def d_f_Lot_M_half_bytes : He.DefD := ⟨("Lot", some "half_bytes"), "half_bytes", "Lot.half_bytes", defArgs s_Lot_M_half_bytes, defBody s_Lot_M_half_bytes, defScope s_Lot_M_half_bytes, [], []⟩
def d_f_Lot_M_read_on : He.DefD := ⟨("Lot", some "read_on"), "read_on", "Lot.read_on", defArgs s_Lot_M_read_on, defBody s_Lot_M_read_on, defScope s_Lot_M_read_on, [], []⟩
def d_f_Lot_M_back : He.DefD := ⟨("Lot", some "back"), "back", "Lot.back", defArgs s_Lot_M_back, defBody s_Lot_M_back, defScope s_Lot_M_back, [.int 0], []⟩
def d_f_sign_of : He.DefD := ⟨("sign_of", none), "sign_of", "sign_of", defArgs s_sign_of, defBody s_sign_of, defScope s_sign_of, [], []⟩
def d_f_is_text : He.DefD := ⟨("is_text", none), "is_text", "is_text", defArgs s_is_text, defBody s_is_text, defScope s_is_text, [], []⟩
def d_f_codes : He.DefD := ⟨("codes", none), "codes", "codes", defArgs s_codes, defBody s_codes, defScope s_codes, [], []⟩
def d_f_plain_codes : He.DefD := ⟨("plain_codes", none), "plain_codes", "plain_codes", defArgs s_plain_codes, defBody s_plain_codes, defScope s_plain_codes, [], []⟩
def d_f_pieces : He.DefD := ⟨("pieces", none), "pieces", "pieces", defArgs s_pieces, defBody s_pieces, defScope s_pieces, [], []⟩
def d_f_pairs_of : He.DefD := ⟨("pairs_of", none), "pairs_of", "pairs_of", defArgs s_pairs_of, defBody s_pairs_of, defScope s_pairs_of, [], []⟩
def d_f_is_short_word : He.DefD := ⟨("is_short_word", none), "is_short_word", "is_short_word", defArgs s_is_short_word, defBody s_is_short_word, defScope s_is_short_word, [], []⟩
def d_f_half_at : He.DefD := ⟨("half_at", none), "half_at", "half_at", defArgs s_half_at, defBody s_half_at, defScope s_half_at, [], []⟩
def d_f__law_bag : He.DefD := ⟨("_law_bag", none), "_law_bag", "_law_bag", defArgs s__law_bag, defBody s__law_bag, defScope s__law_bag, [], []⟩
def d_f__law_pick : He.DefD := ⟨("_law_pick", none), "_law_pick", "_law_pick", defArgs s__law_pick, defBody s__law_pick, defScope s__law_pick, [], []⟩
def d_f__law_choice : He.DefD := ⟨("_law_choice", none), "_law_choice", "_law_choice", defArgs s__law_choice, defBody s__law_choice, defScope s__law_choice, [], []⟩
def d_f__law_integer : He.DefD := ⟨("_law_integer", none), "_law_integer", "_law_integer", defArgs s__law_integer, defBody s__law_integer, defScope s__law_integer, [], []⟩
def d_f__law_signs : He.DefD := ⟨("_law_signs", none), "_law_signs", "_law_signs", defArgs s__law_signs, defBody s__law_signs, defScope s__law_signs, [], []⟩
def d_f__law_codes : He.DefD := ⟨("_law_codes", none), "_law_codes", "_law_codes", defArgs s__law_codes, defBody s__law_codes, defScope s__law_codes, [], []⟩
def d_f__law_sign : He.DefD := ⟨("_law_sign", none), "_law_sign", "_law_sign", defArgs s__law_sign, defBody s__law_sign, defScope s__law_sign, [], []⟩
def d_f__law_word : He.DefD := ⟨("_law_word", none), "_law_word", "_law_word", defArgs s__law_word, defBody s__law_word, defScope s__law_word, [], []⟩
def d_f__law_distinct : He.DefD := ⟨("_law_distinct", none), "_law_distinct", "_law_distinct", defArgs s__law_distinct, defBody s__law_distinct, defScope s__law_distinct, [], []⟩
def d_f__law_pieces : He.DefD := ⟨("_law_pieces", none), "_law_pieces", "_law_pieces", defArgs s__law_pieces, defBody s__law_pieces, defScope s__law_pieces, [], []⟩
def d_f__law_halves : He.DefD := ⟨("_law_halves", none), "_law_halves", "_law_halves", defArgs s__law_halves, defBody s__law_halves, defScope s__law_halves, [], []⟩
def d_f__law_bytes : He.DefD := ⟨("_law_bytes", none), "_law_bytes", "_law_bytes", defArgs s__law_bytes, defBody s__law_bytes, defScope s__law_bytes, [], []⟩
def d_f__law_next : He.DefD := ⟨("_law_next", none), "_law_next", "_law_next", defArgs s__law_next, defBody s__law_next, defScope s__law_next, [], []⟩
def d_f__law_read : He.DefD := ⟨("_law_read", none), "_law_read", "_law_read", defArgs s__law_read, defBody s__law_read, defScope s__law_read, [], []⟩
def d_f__law_lot_words : He.DefD := ⟨("_law_lot_words", none), "_law_lot_words", "_law_lot_words", defArgs s__law_lot_words, defBody s__law_lot_words, defScope s__law_lot_words, [], []⟩
def d_f__law_item : He.DefD := ⟨("_law_item", none), "_law_item", "_law_item", defArgs s__law_item, defBody s__law_item, defScope s__law_item, [], []⟩
def d_f__law_row : He.DefD := ⟨("_law_row", none), "_law_row", "_law_row", defArgs s__law_row, defBody s__law_row, defScope s__law_row, [], []⟩
def d_f__law_spoilt : He.DefD := ⟨("_law_spoilt", none), "_law_spoilt", "_law_spoilt", defArgs s__law_spoilt, defBody s__law_spoilt, defScope s__law_spoilt, [], []⟩
def d_f__law_ask_back : He.DefD := ⟨("_law_ask_back", none), "_law_ask_back", "_law_ask_back", defArgs s__law_ask_back, defBody s__law_ask_back, defScope s__law_ask_back, [], []⟩
def d_f__law_back : He.DefD := ⟨("_law_back", none), "_law_back", "_law_back", defArgs s__law_back, defBody s__law_back, defScope s__law_back, [], []⟩
def d_f__law_agrees : He.DefD := ⟨("_law_agrees", none), "_law_agrees", "_law_agrees", defArgs s__law_agrees, defBody s__law_agrees, defScope s__law_agrees, [], []⟩
def d_f_law : He.DefD := ⟨("law", none), "law", "law", defArgs s_law, defBody s_law, defScope s_law, [], []⟩
def fn : List He.DefD := [d_f_Lot_MU_initU, d_f_Lot_M_half_bytes, d_f_Lot_M_read_on, d_f_Lot_M_back, d_f_sign_of, d_f_is_text, d_f_codes, d_f_plain_codes, d_f_pieces, d_f_pairs_of, d_f_is_short_word, d_f_half_at, d_f__law_bag, d_f__law_pick, d_f__law_choice, d_f__law_integer, d_f__law_signs, d_f__law_codes, d_f__law_sign, d_f__law_word, d_f__law_distinct, d_f__law_pieces, d_f__law_halves, d_f__law_bytes, d_f__law_next, d_f__law_read, d_f__law_lot_words, d_f__law_item, d_f__law_row, d_f__law_spoilt, d_f__law_ask_back, d_f__law_back, d_f__law_agrees, d_f_law]
def d_BadLot : FxH.InD := ⟨"BadLot", "word", "BadLot.__init__", inClass (top 4) 0⟩
theorem bd_BadLot : ∀ (fd : FuncData) (p1 p2 : Pos), fd.params = xA d_BadLot.f p1 p2 → fd.defaults = .none → ∀ (u1 u2 : Value), bindArgs fd ⟨[u1, u2], []⟩ = pure [(("self" : Str), u1), (d_BadLot.f, u2)] := fun fd p1 p2 e1 e2 u1 u2 => by
  obtain ⟨n1, n2, n3, n4, n5, n6, n7, n8, n9, n10, n11, n12, n13, n14, n15⟩ := fd
  dsimp only at e1 e2
  subst e1 e2
  rfl
def d_BadText : FxH.InD := ⟨"BadText", "place", "BadText.__init__", inClass (top 3) 0⟩
theorem bd_BadText : ∀ (fd : FuncData) (p1 p2 : Pos), fd.params = xA d_BadText.f p1 p2 → fd.defaults = .none → ∀ (u1 u2 : Value), bindArgs fd ⟨[u1, u2], []⟩ = pure [(("self" : Str), u1), (d_BadText.f, u2)] := fun fd p1 p2 e1 e2 u1 u2 => by
  obtain ⟨n1, n2, n3, n4, n5, n6, n7, n8, n9, n10, n11, n12, n13, n14, n15⟩ := fd
  dsimp only at e1 e2
  subst e1 e2
  rfl
def d_TooMany : FxH.InD := ⟨"TooMany", "kind", "TooMany.__init__", inClass (top 5) 0⟩
theorem bd_TooMany : ∀ (fd : FuncData) (p1 p2 : Pos), fd.params = xA d_TooMany.f p1 p2 → fd.defaults = .none → ∀ (u1 u2 : Value), bindArgs fd ⟨[u1, u2], []⟩ = pure [(("self" : Str), u1), (d_TooMany.f, u2)] := fun fd p1 p2 e1 e2 u1 u2 => by
  obtain ⟨n1, n2, n3, n4, n5, n6, n7, n8, n9, n10, n11, n12, n13, n14, n15⟩ := fd
  dsimp only at e1 e2
  subst e1 e2
  rfl
def fi : List FxH.InD := [d_BadLot, d_BadText, d_TooMany]
def fa : List FxH.Fct := [(He.Fa.free "ValueError").ok,
  (He.Fa.free "all").ok,
  (He.Fa.free "bool").ok,
  (He.Fa.free "int").ok,
  (He.Fa.free "isinstance").ok,
  (He.Fa.free "len").ok,
  (He.Fa.free "list").ok,
  (He.Fa.free "max").ok,
  (He.Fa.free "ord").ok,
  (He.Fa.free "range").ok,
  (He.Fa.free "sorted").ok,
  (He.Fa.free "str").ok,
  (He.Fa.free "tuple").ok,
  (He.Fa.free "super").ok,
  (He.Fa.str "LETTERS" "abcdefghijklmnopqrstuvwxyz").ok,
  (He.Fa.int "LONGEST" 200).ok,
  (He.Fa.str "ROW1" " etaonisrhld").ok,
  (He.Fa.str "ROW2" "cumfpgwybvkxjqz.").ok,
  (He.Fa.str "ROW3" "0123456789\n,'-!?").ok,
  (He.Fa.str "SIGNS" " !\"#$\n&'()*+,-./0123456789:;<=>?@ABCDEFGHIJKLMNOPQRSTUVWXYZ[\\]^_`abcdefghijklmnopqrstuvwxyz{|}~").ok,
  (He.Fa.glo "BadLot").ok,
  (fun K => FxH.excB K "BadLot"),
  (He.Fa.glo "BadText").ok,
  (fun K => FxH.excB K "BadText"),
  (He.Fa.glo "FableError").ok,
  (He.Fa.glo "Lot").ok,
  (He.Fa.glo "TooMany").ok,
  (fun K => FxH.excB K "TooMany"),
  (He.Fa.cls "Lot").ok,
  (He.Fa.noat "Lot" "words").ok,
  (fun K => decide (PySem.W.kitOne K (.ref (He.ga K "BadText")) (.type "ValueError") = some true)),
  (fun K => decide (PySem.W.kitOne K (.ref (He.ga K "BadText")) (.ref (He.ga K "BadText")) = some true)),
  (fun K => decide (PySem.W.kitOne K (.ref (He.ga K "BadText")) (.ref (He.ga K "BadLot")) = some false)),
  (fun K => decide (PySem.W.kitOne K (.ref (He.ga K "BadText")) (.ref (He.ga K "TooMany")) = some false)),
  (fun K => decide (PySem.W.exmOne K (.ref (He.ga K "BadText")) (.ref (He.ga K "FableError")) = some true)),
  (fun K => tupI K (.ref (He.dflAt ("Lot", some "__init__") 0 K)) []),
  (He.Fa.mkr "Lot").ok,
  (He.Fa.meth "Lot" "half_bytes").ok,
  (He.Fa.meth "Lot" "read_on").ok,
  (He.Fa.meth "Lot" "back").ok,
  (He.Fa.glo "sign_of").ok,
  (He.Fa.glo "is_text").ok,
  (He.Fa.glo "codes").ok,
  (He.Fa.glo "plain_codes").ok,
  (He.Fa.glo "pieces").ok,
  (He.Fa.glo "pairs_of").ok,
  (He.Fa.glo "is_short_word").ok,
  (He.Fa.glo "half_at").ok,
  (He.Fa.glo "_law_bag").ok,
  (He.Fa.glo "_law_pick").ok,
  (He.Fa.glo "_law_choice").ok,
  (He.Fa.glo "_law_integer").ok,
  (He.Fa.glo "_law_signs").ok,
  (He.Fa.glo "_law_codes").ok,
  (He.Fa.glo "_law_sign").ok,
  (He.Fa.glo "_law_word").ok,
  (He.Fa.glo "_law_distinct").ok,
  (He.Fa.glo "_law_pieces").ok,
  (He.Fa.glo "_law_halves").ok,
  (He.Fa.glo "_law_bytes").ok,
  (He.Fa.glo "_law_next").ok,
  (He.Fa.glo "_law_read").ok,
  (He.Fa.glo "_law_lot_words").ok,
  (He.Fa.glo "_law_item").ok,
  (He.Fa.glo "_law_row").ok,
  (He.Fa.glo "_law_spoilt").ok,
  (He.Fa.glo "_law_ask_back").ok,
  (He.Fa.glo "_law_back").ok,
  (He.Fa.glo "_law_agrees").ok,
  (He.Fa.glo "law").ok]
abbrev R : PySem.W.OpenRow := PySem.W.OpenLaw.row PySem.Challenge.rw_fablemill_k09_spoilt_packings
def file : Str := PySem.Challenge.pw_fablemill_k09_spoilt_packings.main.file
abbrev hk : PySem.W.Hook := FxH.hookX 6 file fa fn fi
def ob (s : PySem.W.SharedT) : FxH.AlX := FxH.obsXG 6 file fa fn fi (HandSHeadRun.getT s)
theorem ob_eq (s : PySem.W.SharedT) : ob s = hk.obs s.abs := FxH.obsXG_eq (HandSHeadRun.getT_eq s)
def loose : List PySem.Str := (["_wall", "FableError", "BadText", "BadLot", "TooMany", "ROW1", "ROW2", "ROW3", "SIGNS", "LETTERS", "LONGEST", "sign_of"] : List PySem.Str) ++ (["check_text", "is_text", "codes", "plain_codes", "pieces", "pairs_of", "is_short_word", "half_at", "Lot", "_law_bag", "_law_pick", "_law_choice"] : List PySem.Str) ++ (["_law_integer", "_law_signs", "_law_codes", "_law_sign", "_law_word", "_law_distinct", "_law_pieces", "_law_halves", "_law_bytes", "_law_next", "_law_read", "_law_lot_words"] : List PySem.Str) ++ (["_law_item", "_law_row", "_law_spoilt", "_law_ask_back", "_law_back", "_law_agrees"] : List PySem.Str)
theorem run (w : World) : HandSHeadRun.RunEq R (PySem.W.view R.prog [45]) hk ob 20000 loose w := by
  intro os
  kernel_rfl
theorem facts {w : World} {K : PySem.W.Frag} {h : Heap} {mg : Str → Option Value} {f : Addr} (X : K.In h) (G : h.Ns mainGlobals mg) (hfa : mg ("law" : Str) = some (.ref f)) (c : FxH.SaysX file fa fn fi K) :
    ∃ fd : FuncData, (∀ (s : Shared) (v : Value), BindsTo s fd ⟨[v], []⟩ [("_law_script", v)]) ∧ ∀ base : Heap, K.In base → base.Ns mainGlobals mg → FnOk PySem.Challenge.pw_fablemill_k09_spoilt_packings w K mg base CX0 8 f fd ["_law_script"] (spLaw K) := by
  have T : Tx PySem.Challenge.pw_fablemill_k09_spoilt_packings K mg := {
    b_ValueError := He.free_ok X G (c.fact 0),
    b_all := He.free_ok X G (c.fact 1),
    b_bool := He.free_ok X G (c.fact 2),
    b_int := He.free_ok X G (c.fact 3),
    b_isinstance := He.free_ok X G (c.fact 4),
    b_len := He.free_ok X G (c.fact 5),
    b_list := He.free_ok X G (c.fact 6),
    b_max := He.free_ok X G (c.fact 7),
    b_ord := He.free_ok X G (c.fact 8),
    b_range := He.free_ok X G (c.fact 9),
    b_sorted := He.free_ok X G (c.fact 10),
    b_str := He.free_ok X G (c.fact 11),
    b_tuple := He.free_ok X G (c.fact 12),
    b_super := He.free_ok X G (c.fact 13),
    c_LETTERS := cst_str (He.str_ok X G (c.fact 14)),
    c_LONGEST := cst_int (He.int_ok X G (c.fact 15)),
    c_ROW1 := cst_str (He.str_ok X G (c.fact 16)),
    c_ROW2 := cst_str (He.str_ok X G (c.fact 17)),
    c_ROW3 := cst_str (He.str_ok X G (c.fact 18)),
    c_SIGNS := cst_str (He.str_ok X G (c.fact 19)),
    g_BadLot := He.glo_ok X G (c.fact 20),
    x_BadLot := FxH.InD.xc (P := PySem.Challenge.pw_fablemill_k09_spoilt_packings) (d := d_BadLot) (c.ini 0).1 (c.ini 0).2 (FOk.mk' (by decide +kernel) (by decide +kernel) (by decide +kernel) (by decide +kernel)) rfl rfl rfl rfl (bd_BadLot) (by decide +kernel),
    e_BadLot := FxH.excB_ok (c.fact 21),
    g_BadText := He.glo_ok X G (c.fact 22),
    x_BadText := FxH.InD.xc (P := PySem.Challenge.pw_fablemill_k09_spoilt_packings) (d := d_BadText) (c.ini 1).1 (c.ini 1).2 (FOk.mk' (by decide +kernel) (by decide +kernel) (by decide +kernel) (by decide +kernel)) rfl rfl rfl rfl (bd_BadText) (by decide +kernel),
    e_BadText := FxH.excB_ok (c.fact 23),
    g_FableError := He.glo_ok X G (c.fact 24),
    g_Lot := He.glo_ok X G (c.fact 25),
    g_TooMany := He.glo_ok X G (c.fact 26),
    x_TooMany := FxH.InD.xc (P := PySem.Challenge.pw_fablemill_k09_spoilt_packings) (d := d_TooMany) (c.ini 2).1 (c.ini 2).2 (FOk.mk' (by decide +kernel) (by decide +kernel) (by decide +kernel) (by decide +kernel)) rfl rfl rfl rfl (bd_TooMany) (by decide +kernel),
    e_TooMany := FxH.excB_ok (c.fact 27),
    cl_Lot := He.cls_ok (c.fact 28),
    n_Lot_words := He.noat_ok (c.fact 29),
    k_BadText_VE := of_decide_eq_true (c.fact 30),
    k_BadText_BadText := of_decide_eq_true (c.fact 31),
    k_BadText_BadLot := of_decide_eq_true (c.fact 32),
    k_BadText_TooMany := of_decide_eq_true (c.fact 33),
    m_BadText := of_decide_eq_true (c.fact 34),
    t_dfl := c.fact 35 }
  obtain ⟨fd0, F0⟩ := c.def_ 0 (d := d_f_Lot_MU_initU) rfl
  obtain ⟨fd1, F1⟩ := c.def_ 1 (d := d_f_Lot_M_half_bytes) rfl
  obtain ⟨fd2, F2⟩ := c.def_ 2 (d := d_f_Lot_M_read_on) rfl
  obtain ⟨fd3, F3⟩ := c.def_ 3 (d := d_f_Lot_M_back) rfl
  obtain ⟨fd4, F4⟩ := c.def_ 4 (d := d_f_sign_of) rfl
  have S_sign_of : Src K mg "sign_of" s_sign_of := ⟨_, fd4, He.glo_ok X G (c.fact 40), F4⟩
  obtain ⟨fd5, F5⟩ := c.def_ 5 (d := d_f_is_text) rfl
  have S_is_text : Src K mg "is_text" s_is_text := ⟨_, fd5, He.glo_ok X G (c.fact 41), F5⟩
  obtain ⟨fd6, F6⟩ := c.def_ 6 (d := d_f_codes) rfl
  have S_codes : Src K mg "codes" s_codes := ⟨_, fd6, He.glo_ok X G (c.fact 42), F6⟩
  obtain ⟨fd7, F7⟩ := c.def_ 7 (d := d_f_plain_codes) rfl
  have S_plain_codes : Src K mg "plain_codes" s_plain_codes := ⟨_, fd7, He.glo_ok X G (c.fact 43), F7⟩
  obtain ⟨fd8, F8⟩ := c.def_ 8 (d := d_f_pieces) rfl
  have S_pieces : Src K mg "pieces" s_pieces := ⟨_, fd8, He.glo_ok X G (c.fact 44), F8⟩
  obtain ⟨fd9, F9⟩ := c.def_ 9 (d := d_f_pairs_of) rfl
  have S_pairs_of : Src K mg "pairs_of" s_pairs_of := ⟨_, fd9, He.glo_ok X G (c.fact 45), F9⟩
  obtain ⟨fd10, F10⟩ := c.def_ 10 (d := d_f_is_short_word) rfl
  have S_is_short_word : Src K mg "is_short_word" s_is_short_word := ⟨_, fd10, He.glo_ok X G (c.fact 46), F10⟩
  obtain ⟨fd11, F11⟩ := c.def_ 11 (d := d_f_half_at) rfl
  have S_half_at : Src K mg "half_at" s_half_at := ⟨_, fd11, He.glo_ok X G (c.fact 47), F11⟩
  obtain ⟨fd12, F12⟩ := c.def_ 12 (d := d_f__law_bag) rfl
  have S__law_bag : Src K mg "_law_bag" s__law_bag := ⟨_, fd12, He.glo_ok X G (c.fact 48), F12⟩
  obtain ⟨fd13, F13⟩ := c.def_ 13 (d := d_f__law_pick) rfl
  have S__law_pick : Src K mg "_law_pick" s__law_pick := ⟨_, fd13, He.glo_ok X G (c.fact 49), F13⟩
  obtain ⟨fd14, F14⟩ := c.def_ 14 (d := d_f__law_choice) rfl
  have S__law_choice : Src K mg "_law_choice" s__law_choice := ⟨_, fd14, He.glo_ok X G (c.fact 50), F14⟩
  obtain ⟨fd15, F15⟩ := c.def_ 15 (d := d_f__law_integer) rfl
  have S__law_integer : Src K mg "_law_integer" s__law_integer := ⟨_, fd15, He.glo_ok X G (c.fact 51), F15⟩
  obtain ⟨fd16, F16⟩ := c.def_ 16 (d := d_f__law_signs) rfl
  have S__law_signs : Src K mg "_law_signs" s__law_signs := ⟨_, fd16, He.glo_ok X G (c.fact 52), F16⟩
  obtain ⟨fd17, F17⟩ := c.def_ 17 (d := d_f__law_codes) rfl
  have S__law_codes : Src K mg "_law_codes" s__law_codes := ⟨_, fd17, He.glo_ok X G (c.fact 53), F17⟩
  obtain ⟨fd18, F18⟩ := c.def_ 18 (d := d_f__law_sign) rfl
  have S__law_sign : Src K mg "_law_sign" s__law_sign := ⟨_, fd18, He.glo_ok X G (c.fact 54), F18⟩
  obtain ⟨fd19, F19⟩ := c.def_ 19 (d := d_f__law_word) rfl
  have S__law_word : Src K mg "_law_word" s__law_word := ⟨_, fd19, He.glo_ok X G (c.fact 55), F19⟩
  obtain ⟨fd20, F20⟩ := c.def_ 20 (d := d_f__law_distinct) rfl
  have S__law_distinct : Src K mg "_law_distinct" s__law_distinct := ⟨_, fd20, He.glo_ok X G (c.fact 56), F20⟩
  obtain ⟨fd21, F21⟩ := c.def_ 21 (d := d_f__law_pieces) rfl
  have S__law_pieces : Src K mg "_law_pieces" s__law_pieces := ⟨_, fd21, He.glo_ok X G (c.fact 57), F21⟩
  obtain ⟨fd22, F22⟩ := c.def_ 22 (d := d_f__law_halves) rfl
  have S__law_halves : Src K mg "_law_halves" s__law_halves := ⟨_, fd22, He.glo_ok X G (c.fact 58), F22⟩
  obtain ⟨fd23, F23⟩ := c.def_ 23 (d := d_f__law_bytes) rfl
  have S__law_bytes : Src K mg "_law_bytes" s__law_bytes := ⟨_, fd23, He.glo_ok X G (c.fact 59), F23⟩
  obtain ⟨fd24, F24⟩ := c.def_ 24 (d := d_f__law_next) rfl
  have S__law_next : Src K mg "_law_next" s__law_next := ⟨_, fd24, He.glo_ok X G (c.fact 60), F24⟩
  obtain ⟨fd25, F25⟩ := c.def_ 25 (d := d_f__law_read) rfl
  have S__law_read : Src K mg "_law_read" s__law_read := ⟨_, fd25, He.glo_ok X G (c.fact 61), F25⟩
  obtain ⟨fd26, F26⟩ := c.def_ 26 (d := d_f__law_lot_words) rfl
  have S__law_lot_words : Src K mg "_law_lot_words" s__law_lot_words := ⟨_, fd26, He.glo_ok X G (c.fact 62), F26⟩
  obtain ⟨fd27, F27⟩ := c.def_ 27 (d := d_f__law_item) rfl
  have S__law_item : Src K mg "_law_item" s__law_item := ⟨_, fd27, He.glo_ok X G (c.fact 63), F27⟩
  obtain ⟨fd28, F28⟩ := c.def_ 28 (d := d_f__law_row) rfl
  have S__law_row : Src K mg "_law_row" s__law_row := ⟨_, fd28, He.glo_ok X G (c.fact 64), F28⟩
  obtain ⟨fd29, F29⟩ := c.def_ 29 (d := d_f__law_spoilt) rfl
  have S__law_spoilt : Src K mg "_law_spoilt" s__law_spoilt := ⟨_, fd29, He.glo_ok X G (c.fact 65), F29⟩
  obtain ⟨fd30, F30⟩ := c.def_ 30 (d := d_f__law_ask_back) rfl
  have S__law_ask_back : Src K mg "_law_ask_back" s__law_ask_back := ⟨_, fd30, He.glo_ok X G (c.fact 66), F30⟩
  obtain ⟨fd31, F31⟩ := c.def_ 31 (d := d_f__law_back) rfl
  have S__law_back : Src K mg "_law_back" s__law_back := ⟨_, fd31, He.glo_ok X G (c.fact 67), F31⟩
  obtain ⟨fd32, F32⟩ := c.def_ 32 (d := d_f__law_agrees) rfl
  have S__law_agrees : Src K mg "_law_agrees" s__law_agrees := ⟨_, fd32, He.glo_ok X G (c.fact 68), F32⟩
  obtain ⟨fd, F⟩ := c.def_ 33 (d := d_f_law) rfl
  have e := hfa.symm.trans (He.glo_ok X G (c.fact 69 (f := (He.Fa.glo "law").ok) rfl))
  cases e
  have b := FunD.bindsA (ps := ["_law_script"]) F fun _ _ _ _ _ _ us hl => match us, hl with | [_], _ => rfl
  refine ⟨fd, fun s v => b s [v] rfl, fun base hK hG => ?_⟩
  have C_is_short_word : Cal PySem.Challenge.pw_fablemill_k09_spoilt_packings w K mg base CX0 1 "is_short_word" ["thing"] spShort := ok_is_short_word S_is_short_word T 
  have C_Lot_MU_initU : CalID PySem.Challenge.pw_fablemill_k09_spoilt_packings w K mg base (L2.CX PySem.Challenge.pw_fablemill_k09_spoilt_packings w) 3 (He.ga K "Lot") ["self", "words"] (.ref (He.dflAt ("Lot", some "__init__") 0 K)) (spLot K) := ok_Lot_MU_initU F0 (He.mkr_ok (c.fact 36)) T C_is_short_word
  have C_pieces : Cal PySem.Challenge.pw_fablemill_k09_spoilt_packings w K mg base CX0 1 "pieces" ["text"] spPieces := ok_pieces S_pieces T 
  have C_codes : Cal PySem.Challenge.pw_fablemill_k09_spoilt_packings w K mg base CX0 1 "codes" ["sign"] spCodes := ok_codes S_codes T 
  have C_plain_codes : Cal PySem.Challenge.pw_fablemill_k09_spoilt_packings w K mg base CX0 2 "plain_codes" ["text"] spPlain := ok_plain_codes S_plain_codes T C_codes
  have C_Lot_M_half_bytes : CalM PySem.Challenge.pw_fablemill_k09_spoilt_packings w K mg base CX0 3 (He.ga K "Lot") "half_bytes" ["self", "text"] (spHalf K) := ok_Lot_M_half_bytes F1 (He.meth_ok (c.fact 37)) T C_pieces C_plain_codes
  have C_half_at : Cal PySem.Challenge.pw_fablemill_k09_spoilt_packings w K mg base CX0 1 "half_at" ["row", "start", "place"] spHalfAt := ok_half_at S_half_at T 
  have C_sign_of : Cal PySem.Challenge.pw_fablemill_k09_spoilt_packings w K mg base CX0 1 "sign_of" ["code"] spSignOf := ok_sign_of S_sign_of T 
  have C_Lot_M_read_on : CalM PySem.Challenge.pw_fablemill_k09_spoilt_packings w K mg base CX0 2 (He.ga K "Lot") "read_on" ["self", "row", "start"] (spReadOn K) := ok_Lot_M_read_on F2 (He.meth_ok (c.fact 38)) T C_half_at C_sign_of
  have C_is_text : Cal PySem.Challenge.pw_fablemill_k09_spoilt_packings w K mg base CX0 1 "is_text" ["thing"] spIsText := ok_is_text S_is_text T 
  have C_pairs_of : Cal PySem.Challenge.pw_fablemill_k09_spoilt_packings w K mg base CX0 1 "pairs_of" ["half_bytes"] spPairs := ok_pairs_of S_pairs_of T 
  have C_Lot_M_back : CalMD PySem.Challenge.pw_fablemill_k09_spoilt_packings w K mg base (L2.CX PySem.Challenge.pw_fablemill_k09_spoilt_packings w) 4 (He.ga K "Lot") "back" ["self", "row", "start"] (.int 0) "start" (spBack K) := ok_Lot_M_back F3 (He.meth_ok (c.fact 39)) T C_Lot_M_read_on C_is_text C_Lot_M_half_bytes C_pairs_of
  have C__law_bag : Cal PySem.Challenge.pw_fablemill_k09_spoilt_packings w K mg base CX0 1 "_law_bag" ["_law_script"] (spBag K) := ok__law_bag S__law_bag T 
  have C__law_pick : Cal PySem.Challenge.pw_fablemill_k09_spoilt_packings w K mg base CX0 1 "_law_pick" ["_law_bag_here", "_law_many"] spPick := ok__law_pick S__law_pick T 
  have C__law_choice : Cal PySem.Challenge.pw_fablemill_k09_spoilt_packings w K mg base CX0 2 "_law_choice" ["_law_bag_here", "_law_things"] spChoiceS := ok__law_choice S__law_choice T C__law_pick
  have C__law_integer : Cal PySem.Challenge.pw_fablemill_k09_spoilt_packings w K mg base CX0 1 "_law_integer" ["_law_thing"] spInteger := ok__law_integer S__law_integer T 
  have C__law_signs : Cal PySem.Challenge.pw_fablemill_k09_spoilt_packings w K mg base CX0 1 "_law_signs" [] spSigns := ok__law_signs S__law_signs T 
  have C__law_codes : Cal PySem.Challenge.pw_fablemill_k09_spoilt_packings w K mg base CX0 1 "_law_codes" ["_law_sign_here"] spLCodes := ok__law_codes S__law_codes T 
  have C__law_sign : Cal PySem.Challenge.pw_fablemill_k09_spoilt_packings w K mg base CX0 3 "_law_sign" ["_law_bag_here"] spSign := ok__law_sign S__law_sign T C__law_signs C__law_choice
  have C__law_word : Cal PySem.Challenge.pw_fablemill_k09_spoilt_packings w K mg base CX0 2 "_law_word" ["_law_bag_here"] spWordB := ok__law_word S__law_word T C__law_pick
  have C__law_distinct : Cal PySem.Challenge.pw_fablemill_k09_spoilt_packings w K mg base CX0 1 "_law_distinct" ["_law_words"] spDist := ok__law_distinct S__law_distinct T 
  have C__law_pieces : Cal PySem.Challenge.pw_fablemill_k09_spoilt_packings w K mg base CX0 1 "_law_pieces" ["_law_text"] spPieces := ok__law_pieces S__law_pieces T 
  have C__law_halves : Cal PySem.Challenge.pw_fablemill_k09_spoilt_packings w K mg base CX0 2 "_law_halves" ["_law_words", "_law_text"] spHalves := ok__law_halves S__law_halves T C__law_pieces C__law_codes
  have C__law_bytes : Cal PySem.Challenge.pw_fablemill_k09_spoilt_packings w K mg base CX0 1 "_law_bytes" ["_law_halves_here"] spBytes := ok__law_bytes S__law_bytes T 
  have C__law_next : Cal PySem.Challenge.pw_fablemill_k09_spoilt_packings w K mg base CX0 1 "_law_next" ["_law_words", "_law_halves_here", "_law_place"] spNextL := ok__law_next S__law_next T 
  have C__law_read : Cal PySem.Challenge.pw_fablemill_k09_spoilt_packings w K mg base CX0 3 "_law_read" ["_law_words", "_law_row_here", "_law_at"] spReadL := ok__law_read S__law_read T C__law_next C__law_halves C__law_bytes
  have C__law_lot_words : Cal PySem.Challenge.pw_fablemill_k09_spoilt_packings w K mg base CX0 3 "_law_lot_words" ["_law_bag_here"] spLotWords := ok__law_lot_words S__law_lot_words T C__law_pick C__law_word C__law_distinct
  have C__law_item : Cal PySem.Challenge.pw_fablemill_k09_spoilt_packings w K mg base CX0 4 "_law_item" ["_law_bag_here", "_law_words", "_law_wild"] spItem := ok__law_item S__law_item T C__law_pick C__law_codes C__law_sign
  have C__law_row : Cal PySem.Challenge.pw_fablemill_k09_spoilt_packings w K mg base CX0 5 "_law_row" ["_law_bag_here", "_law_words"] spRowB := ok__law_row S__law_row T C__law_pick C__law_item C__law_bytes C__law_read
  have C__law_spoilt : Cal PySem.Challenge.pw_fablemill_k09_spoilt_packings w K mg base CX0 2 "_law_spoilt" ["_law_bag_here", "_law_row_here"] spSpoiltB := ok__law_spoilt S__law_spoilt T C__law_pick
  have C__law_ask_back : Cal PySem.Challenge.pw_fablemill_k09_spoilt_packings w K mg base (L2.CX PySem.Challenge.pw_fablemill_k09_spoilt_packings w) 5 "_law_ask_back" ["_law_lot", "_law_row_here", "_law_at", "_law_plainly"] (spAskBack K) := ok__law_ask_back S__law_ask_back T C_Lot_M_back
  have C__law_integer_Q : CalQ PySem.Challenge.pw_fablemill_k09_spoilt_packings w K mg base 1 "_law_integer" ["_law_thing"] spInteger := ok__law_integer_Q S__law_integer T 
  have C__law_back : Cal PySem.Challenge.pw_fablemill_k09_spoilt_packings w K mg base CX0 6 "_law_back" ["_law_lot", "_law_row_here", "_law_at", "_law_plainly"] (spLBack K) := ok__law_back S__law_back T C__law_ask_back C__law_integer_Q C__law_integer
  have C__law_agrees : Cal PySem.Challenge.pw_fablemill_k09_spoilt_packings w K mg base CX0 7 "_law_agrees" ["_law_lot", "_law_words", "_law_row_here", "_law_at", "_law_plainly"] (spAgrees K) := ok__law_agrees S__law_agrees T C__law_read C__law_back
  exact ok_law F T C__law_bag C__law_lot_words C_Lot_MU_initU C__law_row C__law_spoilt C__law_pick C__law_agrees
end K09
open PySem PySem.W PySem.Calls PyProof.Rows
theorem PySem.Challenge.cw_fablemill_k09_spoilt_packings_holds : PySem.Challenge.rw_fablemill_k09_spoilt_packings.Holds := by
  w_on; o_law
  refine HandSHeadRun.head_any (r := OpenLaw.row PySem.Challenge.rw_fablemill_k09_spoilt_packings) (q := view (OpenLaw.row PySem.Challenge.rw_fablemill_k09_spoilt_packings).prog [45]) (H := K09.hk) (ob := K09.ob) (M := 20000) (loose := K09.loose) (d := HandSHeadRun.topDef (OpenLaw.row PySem.Challenge.rw_fablemill_k09_spoilt_packings).prog 45) (kwd := []) K09.ob_eq
    (by kernel_rfl) (fun s => by kernel_rfl) K09.run (by kernel_rfl) (by kernel_rfl) (by kernel_rfl) (by rfl) (by first | assumption | decide +kernel) (by decide +kernel) ⟨rfl, rfl, rfl, rfl, rfl, by decide +kernel⟩ ?hw ?hc
  case hw => w_witness2
  case hc =>
    refine L2.walk_ofE (l := PySem.Challenge.rw_fablemill_k09_spoilt_packings) (n := 63) (k := 8) (x := "_law_script") (CX := L2.CX0) rfl (by decide) (by kernel_rfl) ⟨rfl, by decide, by decide⟩ ?F (fun _ _ _ _ z => z)
    intro w mg fa h Y G hmg0
    obtain ⟨K, KX, c⟩ := Y
    have hmg : mg ("law" : PySem.Str) = some (.ref fa) := by
      have e : (HandSHeadRun.topDef (OpenLaw.row PySem.Challenge.rw_fablemill_k09_spoilt_packings).prog 45).name = ("law" : PySem.Str) := by kernel_rfl
      rw [← e]
      exact hmg0
    obtain ⟨fd, hb, hF⟩ := K09.facts (w := w) KX G hmg c
    exact ⟨K, fd, (K09.spLaw K), KX, hb, fun H a ns hl _ hS => ⟨a, ns, rfl, hS, Nat.le_trans hl (by decide), fun _ => rfl⟩, hF⟩
