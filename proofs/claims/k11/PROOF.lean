import PyProof.Rows.All
import Wide.All
import OpenK.AllK
import Wide.FinOn
import KE.KStateDown
import KE.KExcSuper
import Lean
import HandS.ForMost
import HandS.ForExc
import HandS.ExcInit
import HandS.ExcSuper
import HandS.ExcField
import HandS.ExcIs
import HandS.IsInst
import HandS.Defaults
import HandS.Replace
import HandS.ReplaceLit
import HandS.ReplaceDef
import HandS.Head0
import HandS.Head1
import HandS.Head2
import HandS.HeadEnd
import HandS.HeadHook1
import HandS.HeadHook2
import HandS.Wide
import HandS.WideBits
import KE.GoesMore
import HandS.More
import HandS.TupAny
import HandS.Ends
import PyProof.ReprRoads
import PyProof.CallFns
import HandS.TupLe
import HandS.StrMore
import PyProof.Rows.StrPadFill
import PyProof.Rows.StrPadWhole
import KE.KIsAll
import HandS.OwnEq
import HandS.HotCalls
import HandS.Codes
import KE.KOwnIter
import PyProof.InstEq
import HandS.OwnIter
import HandS.IterVal
import PyProof.Rows.SortShellAny
import HandS.Strs
import HandS.Conv
import HandS.Style
import PySem.Challenge.RW_fablemill_k11_lexicons
set_option Elab.async false
set_option linter.all false
set_option maxRecDepth 100000
set_option maxHeartbeats 4000000
/-! Own errors of the shape: class C(FableError): def __init__(self, f): super().__init__('..'); self.f = f -/
namespace Fx
open PySem PySem.W PySem.Calls PyProof.Rows PySem.HandSPX
/-- the text of such an __init__ -/
def xA (f : Str) (p1 p2 : Pos) : Arguments := { posonlyargs := [], args := [{ arg := "self", annotation := none, pos := p1 }, { arg := f, annotation := none, pos := p2 }], vararg := none, kwonlyargs := [], kw_defaults := [], kwarg := none, defaults := [] }
def xB (f m : Str) (q1 q2 q3 q4 q5 q6 q7 q8 q9 q10 : Pos) : List Stmt :=
  [.Expr (.Call (.Attribute (.Call (.Name "super" q1) [] [] q2) "__init__" q3) [.Constant (.str m) 0 q4] [] q5) q6,
   .Assign [.Attribute (.Name "self" q7) f q8] (.Name f q9) q10]
def xS (f : Str) : Scope := { kind := .function, names := [(PySem.Str.ofString "self", .local), (f, .local), (PySem.Str.ofString "__class__", .free), (PySem.Str.ofString "super", .globalImplicit)], isGenerator := false, isCoroutine := false, more := [] }
/-- a field's name that does not clash -/
structure FOk (f : Str) : Prop where
  ns : f ≠ "self"
  nc : f ≠ "__class__"
  nu : f ≠ "super"
  nd : (f == ("__debug__" : Str)) = false
theorem FOk.mk' {f : Str} (h1 : decide (f ≠ "self") = true) (h2 : decide (f ≠ "__class__") = true) (h3 : decide (f ≠ "super") = true) (h4 : (f == ("__debug__" : Str)) = false) : FOk f :=
  ⟨of_decide_eq_true h1, of_decide_eq_true h2, of_decide_eq_true h3, h4⟩
/-- what the written part says of the class at C, its name x, its field f -/
structure XC (K : Frag) (P : Program) (x f : Str) (C : Addr) : Prop where
  fo : FOk f
  cls : ∃ nm q N bs bm sn sub ab col dd k0 k1 k2 k3 k5, K.lookup C = some (excClassObj nm q C N bs bm true sn sub ab col dd k0 k1 k2 k3 k5 "ValueError.__new__") ∧ refsVE bm = true ∧ alongIn K "__init__" bm = some (some (.builtin "ValueError.__init__"))
  sa : findIn K (.ref C) "__setattr__" = some (some (.builtin "object.__setattr__"))
  ga : findIn K (.ref C) "__getattribute__" = some (some (.builtin "BaseException.__getattribute__"))
  gg : findIn K (.ref C) "__getattr__" = some none
  noF : findIn K (.ref C) f = some none
  kC : keepIn K (.ref C) = true
  exC : subIn K (.ref C) (.type "BaseException") = some true
  veC : subIn K (.ref C) (.type "ValueError") = some true
  tyC : typeIn K (.ref C) = some (.type "type")
  hdC : hasDictIn K C = true
  op : nsIn K cStatics "thirdparty.any" = some none
  init : ∃ (fI : Addr), findIn K (.ref C) "__init__" = some (some (.ref fI)) ∧ typeIn K (.ref fI) = some (.type "function") ∧
    ∃ (qual m : Str) (oc : Value) (od : Option Addr) (kV doc pm : Value) (an : Option Addr) (cda cc : Addr) (ct : Value) (osl : Array (Option Value)) (p1 p2 q1 q2 q3 q4 q5 q6 q7 q8 q9 q10 : Pos)
      (ccl : Value) (cdd : Option Addr) (vs : Array Value) (ccs : Array (Option Value)) (tf : Tok) (cl : Value) (cld : Option Addr) (csl : Array (Option Value)),
      K.lookup fI = some ⟨oc, od, .func (ksFn "__init__" qual (xA f p1 p2) (xB f m q1 q2 q3 q4 q5 q6 q7 q8 q9 q10) (xS f) .none kV doc pm an (.ref cda) ct cc), osl⟩ ∧ codeIn K (.ref cda) qual = true ∧
      K.lookup cda = some ⟨ccl, cdd, .fields vs, ccs⟩ ∧ vs[2]? = some (.str (P.main.file : Str) tf) ∧ K.lookup cc = some ⟨cl, cld, .cell (some (.ref C)), csl⟩ ∧ (q3.endLine == q5.line) = true
  bd : ∀ (fd : FuncData) (p1 p2 : Pos), fd.params = xA f p1 p2 → fd.defaults = .none → ∀ (u1 u2 : Value), bindArgs fd ⟨[u1, u2], []⟩ = pure [(("self" : Str), u1), (f, u2)]
  top : (P.main.scope.names.lookup ("super" : Str)).isSome = false
section
variable {f : Str} (F : FOk f)
include F
theorem look_self : (xS f).names.lookup ("self" : Str) = some .local := by simp [xS, List.lookup]
theorem look_f : (xS f).names.lookup f = some .local := by
  have h1 : (f == PySem.Str.ofString "self") = false := by simpa using F.ns
  simp [xS, List.lookup, h1]
theorem look_cls : (xS f).names.lookup ("__class__" : Str) = some .free := by
  have h1 : (("__class__" : Str) == f) = false := by simpa using (Ne.symm F.nc)
  have h2 : (("__class__" : Str) == PySem.Str.ofString "self") = false := by decide
  simp [xS, List.lookup, h1, h2]
theorem look_sup : (xS f).names.lookup ("super" : Str) = some .globalImplicit := by
  have h1 : (("super" : Str) == f) = false := by simpa using (Ne.symm F.nu)
  have h2 : (("super" : Str) == PySem.Str.ofString "self") = false := by decide
  have h3 : (("super" : Str) == PySem.Str.ofString "__class__") = false := by decide
  simp [xS, List.lookup, h1, h2, h3]
end
section
variable {prog : Program} {w : World} {A : Around} {E : Value → Shared → Prop} {h : Heap} {g : Array GenState} {d : Drawn} {t : Nat} {os : OsState}
variable {nm q : Str} {C N : Addr} {bs bm : List Value} {hdct : Bool} {sn : List Str} {sub : List Value} {ab : Bool} {col : Option Bool} {dd : Option Addr} {k0 k1 k2 k3 k5 : Option Value}
theorem boot_super : bootBuiltins ("super" : Str) = some (.type "super") := by first | boot_by_name | kernel_rfl
/-- super().__init__(..) called -/
theorem call_mw {u e t0 : Addr} {rest : List Value} {Q : Value → Shared → Prop}
    (hC : h.get? C = some (excClassObj nm q C N bs bm hdct sn sub ab col dd k0 k1 k2 k3 k5 "ValueError.__new__")) (he : h.get? e = some (excO C t0)) (hu : h.get? u = some (kxs_mw "ValueError.__init__" e)) (hrest : rest.length ≤ sizeLine)
    (hq : ∀ h' t1, (∀ b o, b ≠ e → h.get? b = some o → h'.get? b = some o) → h'.get? e = some (excO C t1) → Q .none ⟨h', g, d, t, os⟩) :
    wpAny (model prog w) A (call (.ref u) rest) Q E ⟨h, g, d, t, os⟩ := by
  refine wpAny_call (codeAny_of_tree ?_)
  show wpAny _ A.in1 (callAny (.ref u) ⟨rest, []⟩) _ _ _
  simp only [callAny]
  refine wpAny_bind (wpAny_load hu ?_)
  simp only [kxs_mw, show (Value.type "method-wrapper" == Value.type "method" || Value.type "method-wrapper" == Value.type "builtin_function_or_method" || Value.type "method-wrapper" == Value.type "method-wrapper") = true by decide, if_true]
  refine KFB.if_so (by decide) ?_
  refine wpAny_bind (ESX.check_bound F.excBase_ValueError hC he rfl ?_)
  refine wpAny_bind (wpAny_pure (wpAny_pure ?_))
  refine ⟨Code.quiet_builtin _ (by decide +kernel), codeAny_builtin F.excBase_ValueError.initEntry ?_⟩
  rw [Around.under_plainId F.excBase_ValueError.init.plain _]
  wp_walk
  refine hq _ h.objs.size (fun b o hb ho => ?_) ?_
  · rw [Heap.get?_update_other _ _ (Ne.symm hb)]
    exact Heap.get?_push_of_some _ ho
  · rw [Heap.get?_update_self _ (Heap.get?_push_of_some _ he) rfl]
    rfl
end
theorem he_sup {env : Env} {m : Str} {q1 q2 q3 q4 q5 : Pos} (hp : (q3.endLine == q5.line) = true) :
    eval (.Call (.Attribute (.Call (.Name "super" q1) [] [] q2) "__init__" q3) [.Constant (.str m) 0 q4] [] q5) env = (do
      let ov ← attributeBase (.Call (.Name "super" q1) [] [] q2) "__init__" env (eval (.Call (.Name "super" q1) [] [] q2) env)
      standAt q3.atName
      let (f, first) ← holding [ov] (getMethod ov "__init__" (do return (← importBound (.Call (.Name "super" q1) [] [] q2) env).getD true))
      callWith q5 f first (backTo q5 (starEach [.Constant (.str m) 0 q4] env)) []) := by
  rw [arm_eval_Call]
  unfold methodCall methodCallPos
  simp only [hp, Bool.or_true, if_true]
  rfl
/-- what __init__ leaves of a fresh exception at x -/
structure InitEnd (h h' : Heap) (x C dx t1 : Addr) (f : Str) (v : Value) : Prop where
  keep : ∀ b o, b ≠ x → h.get? b = some o → h'.get? b = some o
  obj : h'.get? x = some { cls := .ref C, dict := some dx, data := .fields #[.ref t1, .none, .none, .none, .bool false, .none] }
  dbig : h.objs.size ≤ dx
  dne : dx ≠ x
  ns : h'.Ns1 dx (fun y => if y = f then some v else none)
/-- a made exception -/
structure OwnMade (h h' : Heap) (e C d : Addr) (f : Str) (v : Value) : Prop where
  keep : ∀ b o, h.get? b = some o → h'.get? b = some o
  new : h.objs.size ≤ e
  obj : ∃ oe vs, h'.get? e = some oe ∧ oe.cls = .ref C ∧ oe.dict = some d ∧ oe.data = .fields vs ∧ vs[1]? = some .none
  dbig : h.objs.size ≤ d
  dne : d ≠ e
  ns : h'.Ns1 d (fun y => if y = f then some v else none)
section
variable {prog : Program} {w : World} {A : Around} {E : Value → Shared → Prop} {R : Result → Shared → Prop} {s : Shared} {K : Frag} {mg mb : Str → Option Value} {x0 f : Str} {C : Addr}
theorem one_size (v : Value) : [v].length ≤ sizeLine := by
  rw [sizeLine_eq]
  exact (by decide : 1 ≤ 16777216)
theorem fx_init (T : XC K prog x0 f C) {fI : Addr} (hfI : findIn K (.ref C) "__init__" = some (some (.ref fI))) {x t0 : Addr} {v : Value} (X : K.In s.heap) (G : s.heap.Ns mainGlobals mg) (hsu : mg "super" = none) (B : s.heap.Ns builtinsNs mb) (hsb : mb "super" = bootBuiltins "super")
    (hlim : s.heap.NoLimit) (hx : s.heap.get? x = some (excO C t0)) (hnx : K.lookup x = none) (hroom : A.depth < recursionLimit)
    (hq : ∀ h' tk dx t1, InitEnd s.heap h' x C dx t1 f v → R (.ok (.ret .none)) { s with heap := h', toks := tk }) :
    codeAny (model prog w) A (.call (.ref fI) ⟨[.ref x, v], []⟩) R s := by
  obtain ⟨fI', e1, htI, qual, m, oc, od, kV, doc, pm, an, cda, cc, ct, osl, p1, p2, q1, q2, q3, q4, q5, q6, q7, q8, q9, q10, ccl, cdd, vs, ccs, tf, cl, cld, csl, ho, hcd, hcode, hvs, hcell, hps⟩ := T.init
  rw [hfI] at e1
  cases e1
  obtain ⟨nm, q, N, bs, bm, sn, sub, ab, col, dd, k0, k1, k2, k3, k5, hC, hbm, hal⟩ := T.cls
  have hcl : clsIn K C = some { name := nm, bases := bs, mro := .ref C :: bm, ns := N, qualname := q, hasDict := true, slotNames := sn, subclasses := sub, abstract := ab, collection := col, hasDel := false } := by unfold clsIn; rw [hC] <;> rfl
  refine ks_codeAny_call_defAt (fd := ksFn "__init__" qual (xA f p1 p2) (xB f m q1 q2 q3 q4 q5 q6 q7 q8 q9 q10) (xS f) .none kV doc pm an (.ref cda) ct cc) (body := xB f m q1 q2 q3 q4 q5 q6 q7 q8 q9 q10) (binds := [("self", .ref x), (f, v)]) hroom (X _ _ ho) rfl hlim (codeRec_of X hcd) rfl
    (BindsTo.of_eq (T.bd _ p1 p2 rfl rfl _ _)) ?_ ?_ (fun h₁ hns k => ?_)
  · intro y hy
    simp only [xS, List.mem_cons, List.not_mem_nil, or_false] at hy
    rcases hy with rfl | rfl | rfl | rfl <;> simp
  · intro y hy
    simp only [List.mem_cons, List.not_mem_nil, or_false] at hy
    rcases hy with rfl | rfl
    · exact look_self T.fo
    · exact look_f T.fo
  · have X1 : K.In h₁ := X.keeps k
    have hx1 := k _ _ hx
    have hC1 := X1 _ _ hC
    refine ks_wpAt_execs_cons (ks_wpAt_Expr_any (ks_wpAt_MethodCall ?_ (he_sup hps)))
    refine ks_wpAt_super_base (look_sup T.fo) (look_cls T.fo) (by decide) rfl (X1 _ _ ho) rfl rfl rfl (X1 _ _ hcode) rfl hvs (by simp) T.top ?_
    refine ks_loadName_global rfl (look_sup T.fo) (loadGlobal_builtin (G.keeps k) hsu (B.keeps k) (hsb.trans boot_super) ⟨rfl, ?_⟩)
    refine wpAny_loadName_free rfl (look_cls T.fo) rfl ⟨_, X1 _ _ hcell, rfl⟩ ?_
    refine wpAny_loadName_local rfl (look_self T.fo) hns (v := .ref x) ?_ ?_
    · have h1 : (("self" : Str) == f) = false := by simpa using (Ne.symm T.fo.ns)
      simp [List.lookup, h1]
    refine ks_wpAny_isType_cls hC1 rfl ⟨rfl, ?_⟩
    have hsub : mroIn K C (.ref C) = some true := by
      unfold mroIn
      rw [hcl]
      simp
    refine ks_wpAny_call_super hC1 rfl hx1 rfl (fun c e => by cases e) (looks_mroIn X1 hsub) (fun h2 hso k2 => ?_)
    have X2 : K.In h2 := X1.keeps k2
    have hx2 := k2 _ _ hx1
    have hxC : x ≠ C := fun e => by
      rw [e, hC1] at hx1
      cases hx1
    have I2 : InstAt h2 x (excO C t0) C none := ⟨hx2, rfl, rfl, trivial⟩
    refine kxs_getMethod kxs_ValueError hso (looks_opaque X2 T.op) (l₀ := .ref C :: bm) ?_ (ESX.drop_own C bm) X2 hal (I2.type.andThen (looks_subIn X2 T.veC)) hxC (by decide) ?_
    · exact fun A Q E s k q => wpAny_bind ((looks_clsIn X2 hcl) A _ E s k (wpAny_pure q))
    have kp : ∀ b o, h2.get? b = some o → (h2.push (kxs_mw "ValueError.__init__" x)).get? b = some o := fun b o e => Heap.get?_push_of_some _ e
    have hu : (h2.push (kxs_mw "ValueError.__init__" x)).get? h2.objs.size = some (kxs_mw "ValueError.__init__" x) := Heap.get?_push_at rfl rfl
    refine kxs_callWith (i := "ValueError.__init__") (x := x) rfl (evalArgs_plain (spliced_cons (Constant_str (k := 0) (pos := q4) (spliced_nil ⟨hu, ?_⟩))))
    refine call_mw (kp _ _ (X2 _ _ hC)) (kp _ _ hx2) hu (one_size _) (fun h3 t1 k3 hx3 => ?_)
    have kk : ∀ b o, b ≠ x → h₁.get? b = some o → h3.get? b = some o := fun b o hb e => k3 b o hb (kp _ _ (k2 _ _ e))
    have X3 : K.In h3 := fun a o e => kk a o (fun z => by rw [z, hnx] at e; cases e) (X1 a o e)
    have nL : s.heap.objs.size ≠ x := Nat.ne_of_gt (Heap.lt_size hx)
    have hns3 : h3.Ns s.heap.objs.size (fun y => [(("self" : Str), Value.ref x), (f, v)].reverse.lookup y) := by
      obtain ⟨oL, es, ep, hL, r⟩ := hns
      exact ⟨oL, es, ep, kk _ _ nL hL, r⟩
    have hfs : (f == ("self" : Str)) = false := by simpa using T.fo.ns
    have hsf : (("self" : Str) == f) = false := by simpa using (Ne.symm T.fo.ns)
    show PySem.wpAt _ _ _ (execs _ _) _ _ _
    refine ks_wpAt_execs_cons (ks_wpAt_Assign_Attr (PySem.wpAt_of_wpAny ?_))
    refine wpAny_Name (wpAny_loadName_local rfl (look_f T.fo) hns3 (v := v) (by simp [List.lookup]) ?_) T.fo.nd
    refine wpAny_Name (wpAny_loadName_local rfl (look_self T.fo) hns3 (v := .ref x) (by simp [List.lookup, hsf]) ?_) (by decide)
    refine set_plain X3 (ox := excO C t1) (od := none) ⟨hx3, rfl, rfl, trivial⟩ T.sa ?_
    refine exc_osa X3 hx3 hcl (show refsVE (.ref C :: bm) = true from hbm) rfl T.noF (fun h4 tk4 dx k4 dn dne hx4 hn4 => ?_)
    show PySem.wpAt _ _ _ (execs _ _) _ _ _
    refine PySem.wpAt_of_wpAny (wpAny_execs_nil (hq h4 tk4 dx t1 ⟨fun b o hb e => k4 b o hb (kk b o hb (k b o e)), hx4, ?_, dne, hn4⟩))
    exact Nat.le_of_lt (Nat.lt_of_lt_of_le (show s.heap.objs.size < h3.objs.size from hns3.lt) dn)
theorem fx_made (T : XC K prog x0 f C) {v : Value} (X : K.In s.heap) (G : s.heap.Ns mainGlobals mg) (hsu : mg "super" = none) (B : s.heap.Ns builtinsNs mb) (hsb : mb "super" = bootBuiltins "super") (hlim : s.heap.NoLimit) (hroom : A.depth + 1 < recursionLimit)
    (hq : ∀ h' tk e d, OwnMade s.heap h' e C d f v → R (.ok (.ret (.ref e))) { s with heap := h', toks := tk }) :
    codeAny (model prog w) A (.call (.ref C) ⟨[v], []⟩) R s := by
  obtain ⟨fI, hfI, htI, _⟩ := T.init
  obtain ⟨nm, q, N, bs, bm, sn, sub, ab, col, dd, k0, k1, k2, k3, k5, hC, hbm, hal⟩ := T.cls
  obtain ⟨hp, g, dr, tk, os⟩ := s
  have k : ∀ b o, hp.get? b = some o → ((hp.push (kdv_tup [v])).push (excO C hp.objs.size)).get? b = some o := fun b o e => Heap.get?_push_of_some _ (Heap.get?_push_of_some _ e)
  have hget : ((hp.push (kdv_tup [v])).push (excO C hp.objs.size)).get? (hp.objs.size + 1) = some (excO C hp.objs.size) := by heap_get
  have hnx : K.lookup (hp.objs.size + 1) = none := by
    cases e : K.lookup (hp.objs.size + 1) with
    | none => rfl
    | some o =>
      have z : hp.get? (hp.objs.size + 1) = some o := X _ _ e
      exact absurd (Nat.lt_of_succ_lt (Heap.lt_size z)) (Nat.lt_irrefl _)
  refine call_own F.excBase_ValueError (fun X => refsVE_contains X bm hbm) (X _ _ hC) (looks_findIn X hfI) (fun self => bind_fn X self htI) (one_size v) ?_
  refine fx_init (s := ⟨(hp.push (kdv_tup [v])).push (excO C hp.objs.size), g, dr, tk, os⟩) T hfI (X.keeps k) (G.keeps k) hsu (B.keeps k) hsb (hlim.keeps k) hget hnx ?_ fun h' tk' dx t1 ⟨k', hx, dn, dne, hns⟩ => ?_
  · show A.depth + 1 < recursionLimit
    exact hroom
  · have old : ∀ b o, hp.get? b = some o → h'.get? b = some o := fun b o e => k' b o (Nat.ne_of_lt (Nat.lt_succ_of_lt (Heap.lt_size e))) (k b o e)
    have z : hp.objs.size + 1 + 1 ≤ dx := by
      first
        | (simpa only [Heap.size_push] using dn)
        | exact dn
        | (have q := dn; rw [Heap.size_push, Heap.size_push] at q; exact q)
    exact ⟨rfl, hq h' tk' (hp.objs.size + 1) dx ⟨old, Nat.le_succ _, ⟨_, _, hx, rfl, rfl, rfl, rfl⟩, Nat.le_trans (Nat.le_trans (Nat.le_succ _) (Nat.le_succ _)) z, dne, hns⟩⟩
end
end Fx
namespace Fx
open PySem PySem.Spec PyProof.Rows L2
theorem relO_fx {f : Str} {v : V} {v' : Value} (r : RelV v v') (y : Str) : RelO (List.lookup y [(f, v)]) (if y = f then some v' else none) := by
  by_cases hw : y = f
  · subst hw
    rw [if_pos rfl]
    have q : List.lookup y [(y, v)] = some v := by simp [List.lookup]
    rw [q]
    exact r
  · rw [if_neg hw]
    have qw : (y == f) = false := by simpa using hw
    have q2 : List.lookup y [(f, v)] = none := by simp [List.lookup, qw]
    rw [q2]
    trivial
section
variable {X : Cx} {C : Addr} {x0 f : Str}
/-- C(e) -/
def tMkFx (C : Addr) (f : Str) (ta : TA) : L2.St → Hp → XK → Prop := fun σ H Q => ta σ H fun vs H1 => ∃ v, vs = [v] ∧ ∀ d, H1 d = none → Q (.ref C) (some d) (upd H1 d (.xd [(f, v)]))
theorem pmk_fx {a : Expr} {ta : TA} {p pos : Pos} {k : Nat} (T : XC X.K X.prog x0 f C) (gC : X.mg x0 = some (.ref C)) (hsu : X.mg "super" = none) (hr : Room k X.A) (ha : PA X [a] ta) (hg : Gl X x0 := by rfl) (hdb : (x0 == ("__debug__" : Str)) = false := by decide)
    (he : starEach (a :: []) X.env = (false, eval a X.env) :: starEach [] X.env := by rfl) (hpl : (backTo pos (starEach [] X.env)).any (·.1) = false := by rfl) :
    PMk X (.Call (.Name x0 p) [a] [] pos) (tMkFx C f ta) := by
  intro pins s σ H Q I h
  refine wpAny_Call_Name_kw (ld_glob I hg gC ?_ hdb)
  refine PySem.W.callWith_K (h₀ := X.base) I.ok.mod.kin T.kC (thn (ha.run pos pins s σ H _ I h) fun us s1 hh => ?_) he hpl
  obtain ⟨vs, H1, I1, r1, v, ev, q1⟩ := hh
  subst ev
  refine ⟨I1.kIn, ?_⟩
  cases r1 with
  | cons rv rn =>
    rename_i v' us'
    cases rn
    show wpAny _ _ (call (.ref C) [v']) _ _ _
    have hlim := I1.nolimit
    obtain ⟨mb, hb1, hb2⟩ := I1.mod.blt
    have G := I1.mod.glob.keeps I1.bk
    have B := hb1.keeps I1.bk
    obtain ⟨hp, g, dr, tk, os⟩ := s1
    refine wpAny_call (fx_made T I1.kIn G hsu B (hb2 _ (by decide)) hlim (by have := hr.dp; omega) fun h' tk' e d M => ?_)
    show MkP X pins σ Q (.ref e) ⟨h', g, dr, tk', os⟩
    obtain ⟨oe, fv, hoe, hc, hd, hdat, h1⟩ := M.obj
    have hns := M.ns
    obtain ⟨G', g1, g2⟩ := restrict h' fun b => decide (b ≠ e)
    have gk : ∀ b, b ≠ e → G'.get? b = h'.get? b := fun b hb => g1 b (decide_eq_true hb)
    have ge : G'.get? e = none := g2 e (by simp)
    have old : ∀ b o, hp.get? b = some o → G'.get? b = some o := fun b o q => (gk b (Nat.ne_of_lt (Nat.lt_of_lt_of_le (Heap.lt_size q) M.new))).trans (M.keep b o q)
    have ob : ObjOk X.prog X.w (upd H1 d (.xd [(f, v)])) G' d (.xd [(f, v)]) :=
      ⟨_, hns.at (fun o q => (gk d M.dne).trans q), fun y => relO_fx rv y⟩
    have J : Inv X pins σ (upd H1 d (.xd [(f, v)])) ⟨G', g, dr, tk', os⟩ := I1.laid (t' := tk') old M.dbig ob
    refine ⟨e, oe, fv, ⟨G', g, dr, tk', os⟩, _, .ref C, some d, rfl, J, fun b o q => ?_, ge, hoe, ⟨hc, hd⟩, hdat, h1, ?_, rfl, I1.bare, raises_own T.exC T.tyC, q1 d (I1.hok.fresh M.dbig)⟩
    · by_cases hb : b = e
      · have q' : G'.get? b = some o := q
        rw [hb, ge] at q'; cases q'
      · exact (gk b hb).symm.trans q
    · rw [upd_ne (Ne.symm M.dne)]
      exact I1.hok.fresh M.new
/-- raise C(e) -/
def tRaiseFx (C : Addr) (f : Str) (W : WX) (ta : TA) : TS := fun _ σ H => tMkFx C f ta σ H fun cls d H' => W cls d σ H'
theorem ps_raiseFx {a : Expr} {ta : TA} {W : WX} {p pos pos2 : Pos} {k : Nat} (hc : X.calm = true) (T : XC X.K X.prog x0 f C) (gC : X.mg x0 = some (.ref C)) (hsu : X.mg "super" = none) (hr : Room k X.A) (tk : Takes X W) (ha : PA X [a] ta) (hg : Gl X x0 := by rfl) (hdb : (x0 == ("__debug__" : Str)) = false := by decide)
    (he : starEach (a :: []) X.env = (false, eval a X.env) :: starEach [] X.env := by rfl) (hpl : (backTo pos (starEach [] X.env)).any (·.1) = false := by rfl) :
    PS X (.Raise (some (.Call (.Name x0 p) [a] [] pos)) none pos2) (tRaiseFx C f W ta) := ps_raise hc tk (pmk_fx T gC hsu hr ha hg hdb he hpl)
/-- e.f, e the exception that the suite holds -/
theorem XC.xf (T : XC X.K X.prog x0 f C) : XfC X.K C := ⟨T.ga, T.gg, T.exC, T.hdC⟩
end
end Fx
namespace PySem.W
open PySem PySem.Spec PySem.Calls PyProof.Rows
section
variable {prog : Program} {w : World} {A : Around} {E : Value → Shared → Prop} {s : Shared} {K : Frag} {x D : Addr} {ox : Obj} {od : Option Obj}
theorem fx_findObj {C : Addr} {name : Str} {a g : Value} (hc : (clsIn K C).isSome = true) (ha : findIn K (.ref C) name = some (some a)) (hg : specialIn K a "__get__" = some (some g)) (ht : takesIn K a = some true) : findObj K C od name = some (.bind g a) := by
  obtain ⟨cd, hc⟩ := Option.isSome_iff_exists.mp hc
  unfold findObj
  rw [hc, Option.bind_some, ha, Option.bind_some]
  simp [hg, ht]
theorem fx_class {Q : Option Value → Shared → Prop} (hga : findIn K (.ref D) "__getattribute__" = some (some (.builtin "BaseException.__getattribute__"))) (hgt : findIn K (.ref D) "__getattr__" = some none) (hsub : subIn K (.ref D) (.type "BaseException") = some true)
    (hdct : hasDictIn K D = true) (ha : findIn K (.ref D) "__class__" = some (some (.builtin "object.__class__")))
    (hn : specialIn K (.builtin "object.__class__") "__get__" = some (some (.builtin "getset_descriptor.__get__"))) (htk : takesIn K (.builtin "object.__class__") = some true) (hm : mroIn K D (.type "object") = some true)
    (X : K.In s.heap) (I : InstAt s.heap x ox D od) (h : Q (some (.ref D)) { s with toks := s.toks + 1 }) : wpAny (model prog w) A (getAttr? (.ref x) "__class__") Q E s := by
  have hf : findObj K D od "__class__" = some (.bind (.builtin "getset_descriptor.__get__") (.builtin "object.__class__")) := fx_findObj (by obtain ⟨cd, hc, _⟩ := any_some hdct; rw [hc]; rfl) ha hn htk
  obtain ⟨hp, g, d, t, os⟩ := s
  have L0 := I.type (M := model prog w)
  have L1 := looks_findIn (M := model prog w) X hga
  have L2 := looks_findIn (M := model prog w) X hgt
  have L3 := looks_find (M := model prog w) X I hf
  have sub : Looks (model prog w) hp (isInstance (.ref x) (.type "BaseException")) true := L0.andThen (looks_subIn X hsub)
  have hx0 : (false && onTheHeap (Value.builtin "BaseException.__getattribute__")) = false := rfl
  have hx2 : (Value.builtin "BaseException.__getattribute__" == Value.builtin "object.__getattribute__") = false := by decide +kernel
  have hx1 : (onTheHeap (Value.ref D) && Value.builtin "BaseException.__getattribute__" == Value.builtin "object.__getattribute__") = false := by rw [hx2]; rfl
  unfold getAttr? getAttrBy? getAttrBy
  refine wpAny_bind (wpAny_mkText (wpAny_bind (wpAny_attempt (wpAny_holding (wpAny_bind (L0.at (wpAny_bind (L1.at ?_))))))))
  show wpAny _ _ (if (onTheHeap (Value.ref D) && Value.builtin "BaseException.__getattribute__" == Value.builtin "object.__getattribute__") = true then _ else _) _ _ _
  rw [hx1, if_neg Bool.false_ne_true]
  unfold getAttrByItsOwn hookBefore
  refine wpAny_bind ?_
  rw [if_pos (show onTheHeap (Value.ref D) = true from rfl)]
  refine L2.at ?_
  refine wpAny_bind (wpAny_attempt (wpAny_holding ?_))
  unfold callGetattribute
  rw [hx0, if_neg Bool.false_ne_true]
  unfold boundAndCalled
  rw [PySem.F.excAttr_ValueError.ga.bind (.ref x)]
  refine wpAny_bind (wpAny_pure ?_)
  show wpAny _ _ (call (.builtin "BaseException.__getattribute__") [.ref x, .str "__class__" t]) _ _ _
  refine wpAny_call (codeAny_call_builtin PySem.F.excAttr_ValueError.ga.plain PySem.F.entry_bexc_ga ?_)
  refine @check_slot (model prog w) _ _ ⟨hp, g, d, t + 1, os⟩ "BaseException.__getattribute__" "BaseException" "__getattribute__" (.ref x) [.str "__class__" t] [] _ (by decide +kernel) (by decide +kernel) sub (PySem.F.args_bexc_ga (.ref x) (.str "__class__" t)) ?_
  unfold Builtin.«object.__getattribute__»
  refine wpAny_bind (wpAny_of_eq (a := ((Value.ref x : Value), [Value.str "__class__" t])) (by first | rfl | (simp only [slotArgs]; rfl)) ?_)
  refine wpAny_bind (wpAny_pure (wpAny_bind (L0.at (wpAny_bind (L3.at ?_)))))
  show wpAny _ _ (holding [Value.builtin "object.__class__"] (call (.builtin "getset_descriptor.__get__") [.builtin "object.__class__", .ref x, .ref D]) >>= ret) _ _ _
  refine wpAny_bind (wpAny_holding (wpAny_call (class_get (s := ⟨hp, g, d, t + 1, os⟩) (ox := ox) (od := od) X I hm ?_)))
  refine wpAny_pure ?_
  show wpAny _ _ (handedOut (.ref D)) _ _ _
  rw [handedOut_of (v := .ref D) rfl]
  first
    | exact wpAny_pure (wpAny_pure h)
    | exact wpAny_pure h
    | exact wpAny_pure (wpAny_bind (wpAny_pure (wpAny_pure h)))
theorem fx_kitx (hga : findIn K (.ref D) "__getattribute__" = some (some (.builtin "BaseException.__getattribute__"))) (hgt : findIn K (.ref D) "__getattr__" = some none) (hsub : subIn K (.ref D) (.type "BaseException") = some true) (hdct : hasDictIn K D = true) (ha : findIn K (.ref D) "__class__" = some (some (.builtin "object.__class__")))
    (hn : specialIn K (.builtin "object.__class__") "__get__" = some (some (.builtin "getset_descriptor.__get__"))) (htk : takesIn K (.builtin "object.__class__") = some true) (hm : mroIn K D (.type "object") = some true) :
    KitX K (.ref x) (.ref D) (fun h => ∃ od, InstAt h x ox D od) where
  ty := fun _ _ _ ⟨_, I⟩ => I.type
  it := fun _ _ X _ => by
    obtain ⟨cdD, hcD, _⟩ := any_some hdct
    unfold clsIn at hcD
    split at hcD
    · rename_i c' d' cd' sl' ho
      intro A' Q' E' s' k q
      unfold isType loadHead
      exact wpAny_bind (wpAny_loadPart (k _ _ (X _ _ ho)) (wpAny_pure q))
    · cases hcD
  ne := fun h tp dd its n sl X htp => by
    obtain ⟨cdD, hcD, _⟩ := any_some hdct
    refine Bool.eq_false_iff.mpr fun q => ?_
    have e : D = tp := Value.ref.inj (beq_iff_eq.mp q)
    subst e
    unfold clsIn at hcD
    split at hcD
    · rename_i c' d' cd' sl' ho
      have z := (X _ _ ho).symm.trans htp
      cases z
    · cases hcD
  ca := fun X ⟨_, I⟩ k => fx_class hga hgt hsub hdct ha hn htk hm X I k
end
end PySem.W
namespace Fx
open PySem PySem.Spec PyProof.Rows L2
/-- isinstance(e, c), e the exception that the suite holds, with its dict -/
theorem call_isX {X : Cx} {a D dd : Addr} {oe : Obj} {pn : List (Addr × Obj)} {fs : List (Str × V)} (C : ExcC X.K D) (hz : Zc (.ref D) (some dd) oe) (hf : ∃ vs, oe.data = .fields vs) :
    CallR (X.suite a ((a, oe) :: pn)) (.builtin "isinstance") (fun xs H Q => H dd = some (.xd fs) ∧ rIsE X.K D a xs H Q) := by
  intro pins s σ H xs us Q I r h
  obtain ⟨hdd, c, cv, b, rfl, hcv, e, q⟩ := h
  cases r with
  | cons rx rr =>
    cases rr with
    | cons rt rr =>
      cases rr
      cases rx
      have ec := hcv _ rt
      subst ec
      obtain ⟨hget, _⟩ := I.pin (a, oe) (List.mem_append.mpr (.inl List.mem_cons_self))
      obtain ⟨vs, hv⟩ := hf
      have hx : ObjOk X.prog X.w H s.heap dd (.xd fs) := I.hok dd _ hdd
      obtain ⟨mA, ⟨od, es, ep, ho, hrest⟩, hr⟩ := hx
      have J : PySem.W.InstAt s.heap a oe D (some od) := ⟨hget, hz.1, by unfold PySem.W.notCls; rw [hv] <;> rfl, by rw [hz.2]; exact ho⟩
      exact PySem.W.kia_one (PySem.W.fx_kitx C.hg C.hk C.hs C.hd C.ha C.hn C.ht C.hm) I.kIn ⟨_, J⟩ e (fun z => nomatch z) fun tk => ⟨.bl b, H, I.kept (t' := tk) fun _ _ z => z, rfl, q⟩
end Fx
namespace Fx
open PySem PySem.Spec PyProof.Rows L2
def clsVal : V → Option Value
  | .ref C => some (.ref C)
  | .ty n => some (.type n)
  | _ => none
/-- isinstance(e, c) in an except suite, e the exception that it holds: its class cls, its dict d -/
def rIsY (K : PySem.W.Frag) (a : Addr) (cls : Value) (d : Option Addr) : List V → Hp → VK → Prop := fun xs H Q => ∃ c, xs = [.ref a, c] ∧ ∃ D, cls = .ref D ∧ ∃ dd, d = some dd ∧ (∃ fs, H dd = some (.xd fs)) ∧ ExcC K D ∧ ∃ cv, clsVal c = some cv ∧ ∃ b, PySem.W.kitOne K (.ref D) cv = some b ∧ Q (.bl b) H
theorem call_isY {X : Cx} {a : Addr} {oe : Obj} {cls : Value} {d : Option Addr} {pn : List (Addr × Obj)} (hz : Zc cls d oe) (hf : ∃ vs, oe.data = .fields vs) :
    CallR (X.suite a ((a, oe) :: pn)) (.builtin "isinstance") (rIsY X.K a cls d) := by
  intro pins s σ H xs us Q I r h
  obtain ⟨c, e1, D, e2, dd, e3, ⟨fs, hfs⟩, C, cv, hcv, b, hb, q⟩ := h
  subst e1 e2 e3
  refine call_isX (fs := fs) C hz hf pins s σ H _ us Q I r ⟨hfs, c, cv, b, rfl, fun u ru => ?_, hb, q⟩
  cases c with
  | ref C2 => cases hcv; exact ru
  | ty n => cases hcv; exact ru
  | _ => cases hcv
theorem XC.xfc {K : PySem.W.Frag} {P : Program} {x f : Str} {C : Addr} (T : XC K P x f C) : XfC K C := ⟨T.ga, T.gg, T.exC, T.hdC⟩
end Fx
/-! The head's facts: defs, errors' classes, any further facts as tests of the written part -/
namespace FxH
open PySem PySem.Spec PyProof.Rows L2 He
def asR (g : Addr → Option Obj) : Nat → List Addr
  | 0 => [mainGlobals, cStatics]
  | n + 1 => growD g (asR g n)
abbrev Fct := PySem.W.Frag → Bool
/-- an error's class: its name, its field, its __init__ -/
structure InD where
  x : Str
  f : Str
  qual : Str
  st : Stmt
abbrev FnX : Type := Option (Str × Str × Arguments × FuncBody × Scope × Addr × List Str × Value × Addr)
def fnXo (K : PySem.W.Frag) (x : Str) : FnX := match K.lookup (ma K (ga K x) "__init__") with
  | some ⟨_, _, .func fd, _⟩ => some (fd.name, fd.qualname, fd.params, fd.body, fd.scope, fd.globals, fd.closure.map (·.1), fd.defaults, fd.builtins)
  | _ => none
def InD.val (d : InD) : FnX := some ("__init__", d.qual, defArgs d.st, .stmts (defBody d.st), defScope d.st, mainGlobals, ["__class__"], .none, builtinsNs)
def clsB (K : PySem.W.Frag) (C : Addr) : Bool := match K.lookup C with
  | some ⟨.type "type", _, .cls cd, sl⟩ => (match cd.mro, sl.toList with
    | .ref C' :: bm, [_, _, _, _, some (.builtin n), _] => C' == C && (n == "ValueError.__new__" && (!cd.hasDel && (cd.hasDict && (PySem.HandSPX.refsVE bm && decide (PySem.W.alongIn K "__init__" bm = some (some (.builtin "ValueError.__init__")))))))
    | _, _ => false)
  | _ => false
theorem clsB_ok {K : PySem.W.Frag} {C : Addr} (q : clsB K C = true) : ∃ nm q N bs bm sn sub ab col dd k0 k1 k2 k3 k5, K.lookup C = some (excClassObj nm q C N bs bm true sn sub ab col dd k0 k1 k2 k3 k5 "ValueError.__new__") ∧ PySem.HandSPX.refsVE bm = true ∧ PySem.W.alongIn K "__init__" bm = some (some (.builtin "ValueError.__init__")) := by
  unfold clsB at q
  split at q
  · rename_i dd cd sl ho
    split at q
    · rename_i C' bm k0 k1 k2 k3 n k5 hm hs
      simp only [Bool.and_eq_true, beq_iff_eq, Bool.not_eq_true', decide_eq_true_eq] at q
      obtain ⟨rfl, rfl, hdel, hdct, ht, hal⟩ := q
      obtain ⟨nm, bs, mro, ns, qn, hd, sn, sub, ab, col, del⟩ := cd
      dsimp only at hm hdel hdct
      subst hm hdel hdct
      have hsl : sl = #[k0, k1, k2, k3, some (.builtin "ValueError.__new__"), k5] := by
        obtain ⟨l⟩ := sl
        simp only at hs
        rw [hs]
      subst hsl
      exact ⟨nm, qn, ns, bs, bm, sn, sub, ab, col, dd, k0, k1, k2, k3, k5, ho, ht, hal⟩
    · cases q
  · cases q
/-- the cell and the code of the __init__ -/
def iniB (K : PySem.W.Frag) (C fI : Addr) (qual file : Str) : Bool := match K.lookup fI with
  | some ⟨_, _, .func fd, _⟩ => (match fd.closure, fd.code with
    | [(_, cc)], .ref cda => PySem.W.codeIn K (.ref cda) qual && ((match K.lookup cda with
        | some ⟨_, _, .fields vs, _⟩ => (match (vs[2]? : Option Value) with
          | some (Value.str n _) => decide (n = file)
          | _ => false)
        | _ => false) && (match K.lookup cc with
        | some ⟨_, _, .cell (some (.ref D)), _⟩ => decide (D = C)
        | _ => false))
    | _, _ => false)
  | _ => false
def InD.ok (file : Str) (K : PySem.W.Frag) (d : InD) : Bool :=
  let C := ga K d.x
  let fI := ma K C "__init__"
  eqO (PySem.W.nsIn K mainGlobals d.x) (some (some (.ref C))) && (clsB K C && (eqO (PySem.W.findIn K (.ref C) "__setattr__") (some (some (.builtin "object.__setattr__"))) &&
  (eqO (PySem.W.findIn K (.ref C) "__getattribute__") (some (some (.builtin "BaseException.__getattribute__"))) && (eqO (PySem.W.findIn K (.ref C) "__getattr__") (some none) && (eqO (PySem.W.findIn K (.ref C) d.f) (some none) &&
  (PySem.W.keepIn K (.ref C) && (decide (PySem.W.subIn K (.ref C) (.type "BaseException") = some true) && (decide (PySem.W.subIn K (.ref C) (.type "ValueError") = some true) && (decide (PySem.W.typeIn K (.ref C) = some (.type "type")) &&
  (PySem.W.hasDictIn K C && (eqO (PySem.W.nsIn K cStatics "thirdparty.any") (some none) && (eqO (PySem.W.findIn K (.ref C) "__init__") (some (some (.ref fI))) && (decide (PySem.W.typeIn K (.ref fI) = some (.type "function")) && iniB K C fI d.qual file)))))))))))))
/-- what isinstance asks of an error's class -/
def excB (K : PySem.W.Frag) (x : Str) : Bool :=
  let C := ga K x
  eqO (PySem.W.findIn K (.ref C) "__getattribute__") (some (some (.builtin "BaseException.__getattribute__"))) && (eqO (PySem.W.findIn K (.ref C) "__getattr__") (some none) && (decide (PySem.W.subIn K (.ref C) (.type "BaseException") = some true) &&
  (PySem.W.hasDictIn K C && (eqO (PySem.W.findIn K (.ref C) "__class__") (some (some (.builtin "object.__class__"))) && (eqO (PySem.W.specialIn K (.builtin "object.__class__") "__get__") (some (some (.builtin "getset_descriptor.__get__"))) &&
  (decide (PySem.W.takesIn K (.builtin "object.__class__") = some true) && decide (PySem.W.mroIn K C (.type "object") = some true)))))))
theorem excB_ok {K : PySem.W.Frag} {x : Str} (h : excB K x = true) : ExcC K (ga K x) := by
  obtain ⟨h1, h⟩ := ba h
  obtain ⟨h2, h⟩ := ba h
  obtain ⟨h3, h⟩ := ba h
  obtain ⟨h4, h⟩ := ba h
  obtain ⟨h5, h⟩ := ba h
  obtain ⟨h6, h⟩ := ba h
  obtain ⟨h7, h8⟩ := ba h
  exact ⟨eqO_ok h1, eqO_ok h2, of_decide_eq_true h3, h4, eqO_ok h5, eqO_ok h6, of_decide_eq_true h7, of_decide_eq_true h8⟩
/-- the class's facts, from the hook -/
theorem InD.xc {P : Program} {K : PySem.W.Frag} {d : InD} {m : Str} {p1 p2 q1 q2 q3 q4 q5 q6 q7 q8 q9 q10 : Pos} (e : fnXo K d.x = d.val) (c : d.ok (P.main.file : Str) K = true) (fo : Fx.FOk d.f)
    (hA : defArgs d.st = Fx.xA d.f p1 p2) (hB : defBody d.st = Fx.xB d.f m q1 q2 q3 q4 q5 q6 q7 q8 q9 q10) (hS : defScope d.st = Fx.xS d.f) (hp : (q3.endLine == q5.line) = true)
    (bd : ∀ (fd : FuncData) (p1 p2 : Pos), fd.params = Fx.xA d.f p1 p2 → fd.defaults = .none → ∀ (u1 u2 : Value), bindArgs fd ⟨[u1, u2], []⟩ = pure [(("self" : Str), u1), (d.f, u2)])
    (top : (P.main.scope.names.lookup ("super" : Str)).isSome = false) : Fx.XC K P d.x d.f (ga K d.x) := by
  obtain ⟨c0, c⟩ := ba c
  obtain ⟨c1, c⟩ := ba c
  obtain ⟨c2, c⟩ := ba c
  obtain ⟨c3, c⟩ := ba c
  obtain ⟨c4, c⟩ := ba c
  obtain ⟨c5, c⟩ := ba c
  obtain ⟨c6, c⟩ := ba c
  obtain ⟨c7, c⟩ := ba c
  obtain ⟨c8, c⟩ := ba c
  obtain ⟨c9, c⟩ := ba c
  obtain ⟨c10, c⟩ := ba c
  obtain ⟨c11, c⟩ := ba c
  obtain ⟨c12, c⟩ := ba c
  obtain ⟨c13, c14⟩ := ba c
  refine ⟨fo, clsB_ok c1, eqO_ok c2, eqO_ok c3, eqO_ok c4, eqO_ok c5, c6, of_decide_eq_true c7, of_decide_eq_true c8, of_decide_eq_true c9, c10, eqO_ok c11, ⟨_, eqO_ok c12, of_decide_eq_true c13, ?_⟩, bd, top⟩
  unfold iniB at c14
  unfold fnXo at e
  cases q : K.lookup (ma K (ga K d.x) "__init__") with
  | none =>
    rw [q] at c14
    cases c14
  | some o =>
    obtain ⟨oc, od, dt, osl⟩ := o
    rw [q] at c14 e
    cases dt with
    | func fd =>
      obtain ⟨n1, n2, n3, n4, n5, n6, n7, n8, n9, n10, n11, n12, n13, n14, n15⟩ := fd
      have e2 : (some (n1, n2, n3, n4, n5, n6, n7.map (·.1), n8, n15) : FnX) = some (("__init__" : Str), d.qual, defArgs d.st, FuncBody.stmts (defBody d.st), defScope d.st, mainGlobals, [("__class__" : Str)], Value.none, builtinsNs) := e
      simp only [Option.some.injEq, Prod.mk.injEq] at e2
      obtain ⟨h1, h2, h3, h4, h5, h6, h7, h8, h9⟩ := e2
      subst h1 h2 h3 h4 h5 h6 h8 h9
      dsimp only at c14
      cases n7 with
      | nil => cases h7
      | cons a n7 =>
        cases n7 with
        | cons b n7 =>
          have z := congrArg List.length h7
          simp at z
        | nil =>
          obtain ⟨nm, cc⟩ := a
          have h7' : nm = ("__class__" : Str) := by
            have z := List.cons.inj h7
            exact z.1
          subst h7'
          cases n13 with
          | ref cda =>
            dsimp only at c14
            obtain ⟨d1, d2⟩ := ba c14
            obtain ⟨d3, d4⟩ := ba d2
            split at d3
            · rename_i ccl cdd vs ccs hl
              split at d3
              · rename_i n tf hvs
                have en : n = (P.main.file : Str) := of_decide_eq_true d3
                subst en
                split at d4
                · rename_i cl cld D csl hcell
                  have eD : D = ga K d.x := of_decide_eq_true d4
                  subst eD
                  refine ⟨d.qual, m, oc, od, n9, n10, n11, n12, cda, cc, n14, osl, p1, p2, q1, q2, q3, q4, q5, q6, q7, q8, q9, q10, ccl, cdd, vs, ccs, tf, cl, cld, csl, ?_, d1, hl, hvs, hcell, hp⟩
                  rw [hA, hB, hS]
                · cases d4
              · cases d3
            · cases d3
          | _ => cases c14
    | _ => cases c14
/-! ### the Hook -/
abbrev AlX : Type := Bool × List FnW × List FnX
def obsX (file : Str) (fa : List Fct) (fn : List DefD) (fi : List InD) (K : PySem.W.Frag) : AlX := (((fa.all fun f => f K) && (fn.all fun d => d.ok K)) && (fi.all fun d => d.ok file K), fn.map (fun d => fnW K d.at_), fi.map fun d => fnXo K d.x)
def valX (fn : List DefD) (fi : List InD) : AlX := (true, fn.map DefD.val, fi.map InD.val)
def SaysX (file : Str) (fa : List Fct) (fn : List DefD) (fi : List InD) (K : PySem.W.Frag) : Prop := obsX file fa fn fi K = valX fn fi
def obsXG (n : Nat) (file : Str) (fa : List Fct) (fn : List DefD) (fi : List InD) (g : Addr → Option Obj) : AlX := obsX file fa fn fi (frG g (asR g n))
def hookX (n : Nat) (file : Str) (fa : List Fct) (fn : List DefD) (fi : List InD) : PySem.W.Hook where
  α := AlX
  obs := fun s => obsXG n file fa fn fi s.heap.get?
  val := fun _ => valX fn fi
  says := fun _ h => ∃ K : PySem.W.Frag, K.In h ∧ SaysX file fa fn fi K
  of := fun _ _ e => ⟨_, frG_in, e⟩
  keeps := fun _ _ _ ⟨K, hK, c⟩ k => ⟨K, PySem.W.Frag.In.keeps hK k, c⟩
theorem obsXG_eq {n : Nat} {file : Str} {fa : List Fct} {fn : List DefD} {fi : List InD} {g : Addr → Option Obj} {s : Shared} (h : ∀ a, g a = s.heap.get? a) : obsXG n file fa fn fi g = (hookX n file fa fn fi).obs s := by
  have e : g = s.heap.get? := funext h
  rw [e] <;> rfl
section
variable {file : Str} {fa : List Fct} {fn : List DefD} {fi : List InD} {K : PySem.W.Frag}
theorem SaysX.fact (c : SaysX file fa fn fi K) (i : Nat) {f : Fct} (h : fa[i]? = some f := by rfl) : f K = true := by
  have c1 := (ba (ba (show (((fa.all fun f => f K) && (fn.all fun d => d.ok K)) && (fi.all fun d => d.ok file K)) = true from congrArg (fun z : AlX => z.1) c)).1).1
  exact List.all_eq_true.mp c1 f (List.mem_of_getElem? h)
theorem SaysX.def_ (c : SaysX file fa fn fi K) (i : Nat) {d : DefD} (h : fn[i]? = some d := by rfl) : ∃ fd, FunD K d.name d.qual d.params d.body d.scope (d.dvs K) (d.kws K) (fAd K d.at_) fd := by
  have c2 := (ba (ba (show (((fa.all fun f => f K) && (fn.all fun d => d.ok K)) && (fi.all fun d => d.ok file K)) = true from congrArg (fun z : AlX => z.1) c)).1).2
  have e : fn.map (fun d => fnW K d.at_) = fn.map DefD.val := congrArg (fun z : AlX => z.2.1) c
  have e2 : (fn.map fun d => fnW K d.at_)[i]? = (fn.map DefD.val)[i]? := by rw [e]
  rw [List.getElem?_map, List.getElem?_map, h] at e2
  exact DefD.funD (Option.some.inj e2) (List.all_eq_true.mp c2 d (List.mem_of_getElem? h))
theorem SaysX.ini (c : SaysX file fa fn fi K) (i : Nat) {d : InD} (h : fi[i]? = some d := by rfl) : fnXo K d.x = d.val ∧ d.ok file K = true := by
  have c2 := (ba (show (((fa.all fun f => f K) && (fn.all fun d => d.ok K)) && (fi.all fun d => d.ok file K)) = true from congrArg (fun z : AlX => z.1) c)).2
  have e : fi.map (fun d => fnXo K d.x) = fi.map InD.val := congrArg (fun z : AlX => z.2.2) c
  have e2 : (fi.map fun d => fnXo K d.x)[i]? = (fi.map InD.val)[i]? := by rw [e]
  rw [List.getElem?_map, List.getElem?_map, h] at e2
  exact ⟨Option.some.inj e2, List.all_eq_true.mp c2 d (List.mem_of_getElem? h)⟩
end
end FxH
/-! Short words over the layer: a def by its name (Src), a def that keeps its promise (Cal), constants (Cst) -/
namespace Fx
open PySem PySem.Spec PyProof.Rows L2
/-- a def of the text as it stands behind the top -/
def Src (K : PySem.W.Frag) (mg : Str → Option Value) (x : Str) (st : Stmt) : Prop := ∃ f fd, mg x = some (.ref f) ∧ FunD K x x (defArgs st) (defBody st) (defScope st) [] [] f fd
/-- a def that keeps its promise -/
structure Cal (P : Program) (w : World) (K : PySem.W.Frag) (mg : Str → Option Value) (base : Heap) (CX : CXT) (k : Nat) (x : Str) (ps : List Str) (sp : Sp) : Prop where
  ex : ∃ f fd, mg x = some (.ref f) ∧ PySem.W.keepIn K (.ref f) = true ∧ Binds K fd ps [] ∧ FnOk P w K mg base CX k f fd ps sp
/-- a constant of the module -/
def Cst (mg : Str → Option Value) (x : Str) (v : V) : Prop := ∃ u, mg x = some u ∧ RelV v u
section
variable {P : Program} {w : World} {K : PySem.W.Frag} {mg : Str → Option Value} {base : Heap} {x : Str} {st : Stmt} {N ps : List Str} {k : Nat} {sp : Sp}
abbrev BindP (x : Str) (st : Stmt) (ps : List Str) : Prop := ∀ (kV doc pm : Value) (an : Option Addr) (cdv ct : Value) (us : List Value), us.length = ps.length → bindArgs (PySem.W.fnOf x x (defArgs st) (defBody st) (defScope st) .none kV doc pm an cdv ct) ⟨us, []⟩ = pure (ps.zip us)
/-- a def that lets nothing out -/
theorem Src.cal (S : Src K mg x st) (sc : FnScope N ps (defScope st)) (bn : BindP x st ps) (len : ∀ vs H Q E, sp vs H Q E → vs.length = ps.length)
    (hbody : ∀ (f : Addr) (cdv : Value) (A : Around) (outer : List Env) (s : Shared) (H : Hp) (vs : List V) (Q : VK) (E : XK), Room k (A.deeper (envOfC x (defScope st) s.heap.objs.size f cdv)) → sp vs H Q E →
      ∃ t, PSs (cxOf CX0 P w K mg base N x (defScope st) f cdv A outer s H E).nox (defBody st) t ∧ t { nx := fun _ H' => Q .non H', rt := Q } (start N vs) H) : Cal P w K mg base CX0 (k + 1) x ps sp := by
  obtain ⟨f, fd, g, F⟩ := S
  refine ⟨f, fd, g, F.kp, F.bindsN bn, F.ok sc len fun cdv A outer s H vs Q E hr hsp => ?_⟩
  obtain ⟨t, h, q⟩ := hbody f cdv A outer s H vs Q E hr hsp
  exact ⟨t, h.nox, q⟩
/-- a def that may raise -/
theorem Src.calX (S : Src K mg x st) (sc : FnScope N ps (defScope st)) (bn : BindP x st ps) (len : ∀ vs H Q E, sp vs H Q E → vs.length = ps.length)
    (hbody : ∀ (f : Addr) (cdv : Value) (A : Around) (outer : List Env) (s : Shared) (H : Hp) (vs : List V) (Q : VK) (E : XK), Room k (A.deeper (envOfC x (defScope st) s.heap.objs.size f cdv)) → sp vs H Q E →
      ∃ t, PSs (cxOf (L2.CX P w) P w K mg base N x (defScope st) f cdv A outer s H E) (defBody st) t ∧ t { nx := fun _ H' => Q .non H', rt := Q } (start N vs) H) : Cal P w K mg base (L2.CX P w) (k + 1) x ps sp := by
  obtain ⟨f, fd, g, F⟩ := S
  exact ⟨f, fd, g, F.kp, F.bindsN bn, F.ok sc len fun cdv A outer s H vs Q E hr hsp => hbody f cdv A outer s H vs Q E hr hsp⟩
end
/-! ### arguments without a star -/
def nostar : Expr → Bool
  | .Starred _ _ => false
  | _ => true
theorem star_ok {e : Expr} {es : List Expr} {env : Env} (h : nostar e = true) : starEach (e :: es) env = (false, eval e env) :: starEach es env := by
  cases e <;> first | rfl | cases h
theorem back_ok {pos : Pos} {env : Env} : ∀ {es : List Expr}, es.all nostar = true → (backTo pos (starEach es env)).any (·.1) = false
  | [], _ => rfl
  | e :: es, h => by
    simp only [List.all_cons, Bool.and_eq_true] at h
    rw [star_ok h.1]
    show (false || (backTo pos (starEach es env)).any (·.1)) = false
    rw [back_ok h.2]
    rfl
theorem pa_c {X : Cx} {e : Expr} {es : List Expr} {te : TE} {t : TA} (ha : PE X e te) (hr : PA X es t) (hs : nostar e = true := by rfl) : PA X (e :: es) (tCons te t) := pa_cons ha hr (star_ok hs)
section
variable {X : Cx} {x : Str} {p pos : Pos} {e : Expr} {es : List Expr} {t : TA} {id T : String} {r : List V → Hp → VK → Prop}
theorem pe_cB (hc : CallR X (.builtin id) r) (hm : X.mg x = none) (hv : bootBuiltins x = some (.builtin id)) (ha : PA X (e :: es) t) (hg : Gl X x := by rfl) (hn : x ≠ "__name__" := by decide) (hdb : (x == ("__debug__" : Str)) = false := by decide)
    (hs : (e :: es).all nostar = true := by rfl) : PE X (.Call (.Name x p) (e :: es) [] pos) (tCB r t) := by
  simp only [List.all_cons, Bool.and_eq_true] at hs
  exact pe_callB hc hg hm hv ha hn hdb (star_ok hs.1) (back_ok hs.2)
theorem pe_cTy (hc : CallR X (.type T) r) (hm : X.mg x = none) (hv : bootBuiltins x = some (.type T)) (ha : PA X (e :: es) t) (hg : Gl X x := by rfl) (hn : x ≠ "__name__" := by decide) (hdb : (x == ("__debug__" : Str)) = false := by decide)
    (hs : (e :: es).all nostar = true := by rfl) : PE X (.Call (.Name x p) (e :: es) [] pos) (tCB r t) := by
  simp only [List.all_cons, Bool.and_eq_true] at hs
  exact pe_callTy hc hg hm hv ha hn hdb (star_ok hs.1) (back_ok hs.2)
end
section
variable {X : Cx} {x : Str} {ps : List Str} {sp : Sp} {k : Nat} {CX : CXT} {E : XK} {e : Expr} {es : List Expr} {t : TA} {p pos : Pos}
/-- f(e, ..) -/
theorem pe_cal (C : Cal X.prog X.w X.K X.mg X.base CX k x ps sp) (hr : Room k X.A) (hx : Passes CX X E) (ha : PA X (e :: es) t) (hg : Gl X x := by rfl) (hdb : (x == ("__debug__" : Str)) = false := by decide)
    (hs : (e :: es).all nostar = true := by rfl) : PE X (.Call (.Name x p) (e :: es) [] pos) (tCall sp [] E t) := by
  obtain ⟨f, fd, g, kp, b, F⟩ := C.ex
  simp only [List.all_cons, Bool.and_eq_true] at hs
  exact pe_call F hr hg g kp b .nil hx ha hdb (star_ok hs.1) (back_ok hs.2)
theorem pe_cal0 (C : Cal X.prog X.w X.K X.mg X.base CX k x ps sp) (hr : Room k X.A) (hx : Passes CX X E) (hg : Gl X x := by rfl) (hdb : (x == ("__debug__" : Str)) = false := by decide) : PE X (.Call (.Name x p) [] [] pos) (tCall sp [] E tNil) := by
  obtain ⟨f, fd, g, kp, b, F⟩ := C.ex
  exact pe_call0 F hr hg g kp b .nil hx hdb
/-- f(e, ..) of a def that may raise, in a try's body -/
theorem pe_calS {W : WX} (C : Cal X.prog X.w X.K X.mg X.base (L2.CX X.prog X.w) k x ps sp) (hr : Room k X.A) (tk : Takes X W) (ha : PA X (e :: es) t) (hg : Gl X x := by rfl) (hdb : (x == ("__debug__" : Str)) = false := by decide)
    (hs : (e :: es).all nostar = true := by rfl) : PE X (.Call (.Name x p) (e :: es) [] pos) (tCallS sp (WE W) t) := by
  obtain ⟨f, fd, g, kp, b, F⟩ := C.ex
  simp only [List.all_cons, Bool.and_eq_true] at hs
  exact pe_callS F hr hg g kp b (fun σ => passAt tk σ) ha hdb (star_ok hs.1) (back_ok hs.2)
theorem pe_cst {v : V} (h : Cst X.mg x v) (hg : Gl X x := by rfl) (hdb : (x == ("__debug__" : Str)) = false := by decide) : PE X (.Name x p) (tC v) := by
  obtain ⟨u, hm, r⟩ := h
  exact pe_glob hg hm r hdb
end
end Fx
/-! The law's bag of numbers -/
namespace Fx
open PySem PySem.Spec PyProof.Rows L2
def bagKV (c : Addr) (a r m n : Int) : List (Key × V) := [(.inr "cells", .ref c), (.inr "at", .int a), (.inr "rest", .int r), (.inr "mixed", .int m), (.inr "count", .int n)]
section
variable {c : Addr} {a r m n : Int} {v : Int}
theorem bag_cells : valV (bagKV c a r m n) (.inr "cells") = some (.ref c) := rfl
theorem bag_at : valV (bagKV c a r m n) (.inr "at") = some (.int a) := rfl
theorem bag_rest : valV (bagKV c a r m n) (.inr "rest") = some (.int r) := rfl
theorem bag_mixed : valV (bagKV c a r m n) (.inr "mixed") = some (.int m) := rfl
theorem bag_count : valV (bagKV c a r m n) (.inr "count") = some (.int n) := rfl
theorem bag_atP : putK (bagKV c a r m n) (.inr "at") (.int v) = bagKV c v r m n := rfl
theorem bag_restP : putK (bagKV c a r m n) (.inr "rest") (.int v) = bagKV c a v m n := rfl
theorem bag_mixedP : putK (bagKV c a r m n) (.inr "mixed") (.int v) = bagKV c a r v n := rfl
theorem bag_countP : putK (bagKV c a r m n) (.inr "count") (.int v) = bagKV c a r m v := rfl
end
/-- the bag at b, its numbers at c -/
def BagC (H : Hp) (b c : Addr) : Prop := ∃ (ns : List Int) (a r m n : Int), H b = some (.dK (bagKV c a r m n)) ∧ H c = some (.lst (ns.map V.int)) ∧ 0 ≤ a
def Bag (H : Hp) (b : Addr) : Prop := ∃ c : Addr, BagC H b c
/-- all that was tracked but the bag is as it was; the bag is a bag -/
structure Kp (b : Addr) (H H' : Hp) : Prop where
  keep : ∀ a o, a ≠ b → H a = some o → H' a = some o
  bag : Bag H' b
  cel : ∀ c, BagC H b c → BagC H' b c
section
variable {b c D : Addr} {H H1 H2 : Hp}
theorem Bag.some (B : Bag H b) : ∃ kvs, H b = some (.dK kvs) := by
  obtain ⟨c, ns, a, r, m, n, h, _⟩ := B
  exact ⟨_, h⟩
theorem BagC.same (B : BagC H b c) (s : Same H H1) : BagC H1 b c := by
  obtain ⟨ns, a, r, m, n, h1, h2, h3⟩ := B
  exact ⟨ns, a, r, m, n, s _ _ h1, s _ _ h2, h3⟩
theorem Kp.refl (B : Bag H b) : Kp b H H := ⟨fun _ _ _ h => h, B, fun _ h => h⟩
theorem Kp.trans (x : Kp b H H1) (y : Kp b H1 H2) : Kp b H H2 := ⟨fun a o n h => y.keep a o n (x.keep a o n h), y.bag, fun c h => y.cel c (x.cel c h)⟩
theorem Bag.same (B : Bag H b) (s : Same H H1) : Bag H1 b := by
  obtain ⟨c, h⟩ := B
  exact ⟨c, h.same s⟩
theorem Kp.same (B : Bag H b) (s : Same H H1) : Kp b H H1 := ⟨fun a o _ h => s a o h, B.same s, fun c h => h.same s⟩
theorem Kp.then (x : Kp b H H1) (s : Same H1 H2) : Kp b H H2 := x.trans (Kp.same x.bag s)
theorem BagC.put {o : HO} (B : BagC H b c) (hb : b ≠ D) (hc : c ≠ D) : BagC (upd H D o) b c := by
  obtain ⟨ns, a, r, m, n, h1, h2, h3⟩ := B
  exact ⟨ns, a, r, m, n, by rw [upd_ne hb]; exact h1, by rw [upd_ne hc]; exact h2, h3⟩
/-- what was made since then may be changed -/
theorem Kp.put {o : HO} (B : Bag H b) (x : Kp b H H1) (hD : H D = Option.none) : Kp b H (upd H1 D o) := by
  have g : ∀ c, BagC H b c → BagC (upd H1 D o) b c := by
    intro c Bc
    have B1 := x.cel c Bc
    obtain ⟨ns, a, r, m, n, h1, h2, h3⟩ := Bc
    exact B1.put (ne_of_none h1 hD) (ne_of_none h2 hD)
  obtain ⟨c, Bc⟩ := B
  exact ⟨fun a o' n h => by rw [upd_ne (ne_of_none h hD)]; exact x.keep a o' n h, ⟨c, g c Bc⟩, g⟩
theorem Kp.none_ne (x : Kp b H H1) (B : Bag H b) (hD : H D = Option.none) : D ≠ b := fun e => by
  obtain ⟨kvs, h⟩ := B.some
  rw [← e, hD] at h
  cases h
theorem Bag.lst (B : Bag H b) {a : Addr} {xs : List V} (h : H a = Option.some (.lst xs)) : a ≠ b := by
  obtain ⟨c, ns, x, r, m, n, h1, _⟩ := B
  exact ne_of h h1 (by intro z; cases z)
theorem Bag.tup (B : Bag H b) {a : Addr} {xs : List V} (h : H a = Option.some (.tup xs)) : a ≠ b := by
  obtain ⟨c, ns, x, r, m, n, h1, _⟩ := B
  exact ne_of h h1 (by intro z; cases z)
theorem Kp.lst (x : Kp b H H1) (B : Bag H b) {a : Addr} {xs : List V} (h : H a = Option.some (.lst xs)) : H1 a = Option.some (.lst xs) := x.keep _ _ (B.lst h) h
theorem Kp.tup (x : Kp b H H1) (B : Bag H b) {a : Addr} {xs : List V} (h : H a = Option.some (.tup xs)) : H1 a = Option.some (.tup xs) := x.keep _ _ (B.tup h) h
theorem Kp.free (x : Kp b H H1) {p : Addr} (h : H1 p = Option.none) : H p = Option.none := by
  cases q : H p with
  | none => rfl
  | some o =>
    by_cases e : p = b
    · obtain ⟨kvs, hb⟩ := x.bag.some
      rw [e, hb] at h
      cases h
    · rw [x.keep p o e q] at h
      cases h
theorem same_new {H : Hp} {p : Addr} {o : HO} (h : H p = Option.none) : Same H (upd H p o) := fun b x e => by
  rw [upd_ne (ne_of_none e h)]
  exact e
end
/-- _law_pick(bag, many) -/
def spPick : Sp := fun vs H Q _ => ∃ (b : Addr) (many : Int), vs = [.ref b, .int many] ∧ Bag H b ∧ 0 < many ∧ many < 1073741824 ∧ ∀ (n : Int) (H' : Hp), 0 ≤ n → n < many → Kp b H H' → Q (.int n) H'
/-- _law_bag(script) -/
def spBag (K : PySem.W.Frag) : Sp := fun vs H Q _ => ∃ (a : Addr) (ns : List Int), vs = [.ref a] ∧ SqL K H a (ns.map V.int) ∧ ns.length ≤ 1000 ∧ ∀ (b : Addr) (H' : Hp), Same H H' → H b = none → Bag H' b → Q (.ref b) H'
end Fx
/-! Readings evaluated by simp -/
namespace Fx
open PySem PySem.Spec PyProof.Rows L2
section
variable {H H' : Hp} {a b p : Addr} {z : Str} {i : Int} {r : Option V} {v : V} {kvs : List (Key × V)} {o u : HO}
theorem dget_s (hb : H b = some (.dK kvs)) : DGet H b (.str z) r ↔ r = valV kvs (.inr z) := by
  constructor
  · rintro (⟨kvs', k, hr, e, rfl⟩ | ⟨kvs', k, b', hr, e, _⟩)
    · rcases hr with hr | ⟨o, hr⟩
      · rw [hb] at hr
        cases hr
        cases k with
        | inl i => cases e
        | inr y => cases e; rfl
      · rw [hb] at hr
        cases hr
    · cases e
  · rintro rfl
    exact DGet.k (k := Sum.inr z) hb
theorem dget_i (hb : H b = some (.dK kvs)) : DGet H b (.int i) r ↔ r = valV kvs (.inl i) := by
  constructor
  · rintro (⟨kvs', k, hr, e, rfl⟩ | ⟨kvs', k, b', hr, e, _⟩)
    · rcases hr with hr | ⟨o, hr⟩
      · rw [hb] at hr
        cases hr
        cases k with
        | inl i => cases e; rfl
        | inr y => cases e
      · rw [hb] at hr
        cases hr
    · cases e
  · rintro rfl
    exact DGet.k (k := Sum.inl i) hb
theorem dput_s (hb : H b = some (.dK kvs)) (hl : kvs.length < 1000) : DPut H b (.str z) v H' ↔ H' = upd H b (.dK (putK kvs (.inr z) v)) := by
  constructor
  · rintro (⟨kvs', k, hr, e, _, rfl⟩ | ⟨kvs', k, b', hr, e, _⟩)
    · rw [hb] at hr
      cases hr
      cases k with
      | inl i => cases e
      | inr y => cases e; rfl
    · cases e
  · rintro rfl
    exact DPut.k (k := Sum.inr z) hb (Nat.lt_of_lt_of_le hl (by decide))
theorem dget_su : DGet (upd H b (.dK kvs)) b (.str z) r ↔ r = valV kvs (.inr z) := dget_s upd_same
theorem dput_su (hl : kvs.length < 1000) : DPut (upd H b (.dK kvs)) b (.str z) v H' ↔ H' = upd H b (.dK (putK kvs (.inr z) v)) := by
  rw [dput_s upd_same hl, upd_upd]
theorem bag_len {c : Addr} {a r m n : Int} : (bagKV c a r m n).length < 1000 := show 5 < 1000 by decide
theorem ite_dec {p : Prop} [Decidable p] {A B : Prop} : (if decide p = true then A else B) ↔ (if p then A else B) := by simp
theorem ite_ndec {p : Prop} [Decidable p] {A B : Prop} : (if (!decide p) = true then A else B) ↔ (if p then B else A) := by
  by_cases h : p <;> simp [h]
end
end Fx
namespace Fx
open PySem PySem.Spec PyProof.Rows L2
/-- one statement first; the rest stays folded -/
theorem seqI {t u : TS} {D : Ends} {σ : L2.St} {H : Hp} (h : ∀ K : L2.St → Hp → Prop, (∀ σ H, u D σ H → K σ H) → t { D with nx := K } σ H) : tSeq t u D σ H := h (u D) fun _ _ x => x
theorem ifI {tc : TT} {t u : TS} {D : Ends} {σ : L2.St} {H : Hp} (h : ∀ A B : Hp → Prop, (∀ H1, t D σ H1 → A H1) → (∀ H1, u D σ H1 → B H1) → tc σ H (fun b H1 => if b = true then A H1 else B H1)) : tIfS tc t u D σ H := h (t D σ) (u D σ) (fun _ x => x) (fun _ x => x)
theorem while_i {c : TT} {tb : TS} {D : Ends} {σ : L2.St} {H : Hp} (Pv : L2.St → Hp → Prop) (μ : L2.St → Hp → Nat) (h0 : Pv σ H)
    (hs : ∀ σ H, Pv σ H → ∀ A B : Hp → Prop, (∀ H1, tb { D with nx := fun σ' H' => Pv σ' H' ∧ μ σ' H' < μ σ H, ct := fun σ' H' => Pv σ' H' ∧ μ σ' H' < μ σ H, bk := D.nx } σ H1 → A H1) → (∀ H1, D.nx σ H1 → B H1) → c σ H fun b H1 => if b = true then A H1 else B H1) : tWhile c tb D σ H := by
  refine ⟨fun m σ H => m = μ σ H ∧ Pv σ H, ⟨_, rfl, h0⟩, ?_⟩
  rintro m σ H ⟨rfl, p⟩
  exact hs σ H p _ _ (fun H1 t => ⟨fun σ' H' => Pv σ' H' ∧ μ σ' H' < μ σ H, fun σ' H' ⟨a, b⟩ => ⟨μ σ' H', b, rfl, a⟩, t⟩) (fun H1 x => x)
theorem forI {wi : TI} {g : TG} {tb : TS} {D : Ends} {σ : L2.St} {H : Hp} (h : ∀ R : It → Hp → Prop, (∀ J H1, (∃ W : Nat → Nat → L2.St → Hp → Prop, (∃ m, W 0 m σ H1) ∧ ∀ i m σ H, W i m σ H →
    (J.stop i H ∧ D.nx σ H) ∨ (J.go i H ∧ ∃ N : L2.St → Hp → Prop, (∀ σ' H', N σ' H' → ∃ m', m' < m ∧ W (i + 1) m' σ' H') ∧ ∀ x H', J.yld i H x H' → g x σ H' fun σ2 H2 => tb { D with nx := N, ct := N, bk := D.nx } σ2 H2)) → R J H1) → wi σ H R) : tFor wi g tb D σ H := h _ fun _ _ x => x
theorem ite_i {c A B : Prop} [Decidable c] (h1 : c → A) (h2 : ¬ c → B) : if c then A else B := ite2 h1 h2
theorem sz {n : Nat} (h : n ≤ 100000) : n ≤ sizeLine := Nat.le_trans h (by decide)
end Fx
namespace Fx
open PySem PySem.Spec PyProof.Rows L2
theorem cx_K {CX : CXT} {P : Program} {w : World} {K : PySem.W.Frag} {mg : Str → Option Value} {base : Heap} {N : List Str} {qual : Str} {scope : Scope} {f : Addr} {cd : Value} {A : Around} {outer : List Env} {s : Shared} {H : Hp} {E : XK} :
    (cxOf CX P w K mg base N qual scope f cd A outer s H E).K = K := rfl
end Fx
/-! Rules whose readings ask the tracked heap alone -/
namespace Fx
open PySem PySem.Spec PyProof.Rows L2
section
variable {X : Cx}
theorem IxR.imp {r r' : R2} (h : IxR X r) (i : ∀ x y H Q, r' x y H Q → r x y H Q) : IxR X r' := by
  intro value slice pins s σ H x y v u Q I rx ry q e
  exact h value slice pins s σ H x y v u Q I rx ry (i _ _ _ _ q) e
theorem CallR.imp {f : Value} {r r' : List V → Hp → VK → Prop} (h : CallR X f r) (i : ∀ xs H Q, r' xs H Q → r xs H Q) : CallR X f r' := fun pins s σ H xs us Q I rx q => h pins s σ H xs us Q I rx (i _ _ _ q)
theorem SlR.imp {r r' : V → Option Int → Option Int → Hp → VK → Prop} (h : SlR X r) (i : ∀ x lo hi H Q, r' x lo hi H Q → r x lo hi H Q) : SlR X r' := by
  intro pins s σ H x v vl vu lo hi sl Q I rx hs pl pu q
  exact h pins s σ H x v vl vu lo hi sl Q I rx hs pl pu (i _ _ _ _ _ q)
/-- xs[i], a tracked list | tuple -/
def rIxLt : R2 := fun x y H Q => ∃ p i xs, x = .ref p ∧ y = .int i ∧ H p = some (.lst xs) ∧ ∃ v, atI xs i = some v ∧ Q v H
def rIxTt : R2 := fun x y H Q => ∃ p i xs, x = .ref p ∧ y = .int i ∧ H p = some (.tup xs) ∧ ∃ v, atI xs i = some v ∧ Q v H
theorem ix_L : IxR X rIxLt := IxR.imp ix_list fun x y H Q ⟨p, i, xs, e1, e2, h, v, a, q⟩ => ⟨p, xs, i, v, e1, e2, .inl (.inl h), a, q⟩
theorem ix_T : IxR X rIxTt := IxR.imp ix_tup fun x y H Q ⟨p, i, xs, e1, e2, h, v, a, q⟩ => ⟨p, xs, i, v, e1, e2, .inl (.inl h), a, q⟩
/-- s[i] -/
def rIxSt : R2 := fun x y H Q => ∃ z i, x = .str z ∧ y = .int i ∧ z.length ≤ sizeLine ∧ ∃ c, atI z.cps.toList i = some c ∧ Q (.str ⟨#[c]⟩) H
theorem ix_S : IxR X rIxSt := IxR.imp ix_str fun x y H Q ⟨z, i, e1, e2, h, v, a, q⟩ => ⟨z, i, v, e1, e2, h, a, q⟩
/-- len(xs) -/
def rLenL : List V → Hp → VK → Prop := fun xs H Q => ∃ p ys, xs = [.ref p] ∧ H p = some (.lst ys) ∧ Q (.int ys.length) H
def rLenT : List V → Hp → VK → Prop := fun xs H Q => ∃ p ys, xs = [.ref p] ∧ H p = some (.tup ys) ∧ Q (.int ys.length) H
theorem len_L : CallR X (.builtin "len") rLenL := CallR.imp call_len_seq fun xs H Q ⟨p, ys, e, h, q⟩ => ⟨p, ys, e, .inl (.inl (.inl h)), q⟩
theorem len_T : CallR X (.builtin "len") rLenT := CallR.imp call_len_seq fun xs H Q ⟨p, ys, e, h, q⟩ => ⟨p, ys, e, .inr (.inl (.inl h)), q⟩
def rLenS : List V → Hp → VK → Prop := fun xs H Q => ∃ z, xs = [.str z] ∧ z.length ≤ sizeLine ∧ Q (.int z.length) H
theorem len_S : CallR X (.builtin "len") rLenS := call_len_str
/-- int(n) -/
def rIntI : List V → Hp → VK → Prop := fun xs H Q => ∃ i, xs = [.int i] ∧ Q (.int i) H
theorem int_I : CallR X (.type "int") rIntI := CallR.imp call_int1 fun xs H Q h => .inl h
def rOrd : List V → Hp → VK → Prop := fun xs H Q => ∃ x, xs = [.str x] ∧ x.length = 1 ∧ Q (.int (x.cps.getD 0 0 : Nat)) H
theorem ord_S : CallR X (.builtin "ord") rOrd := call_ord
/-- xs[a:b] -/
def rSlLt : V → Option Int → Option Int → Hp → VK → Prop := fun x lo hi H Q => ∃ a xs, x = .ref a ∧ H a = some (.lst xs) ∧ ∀ p, H p = none → Q (.ref p) (upd H p (.lst (cutV xs lo hi)))
theorem sl_L : SlR X rSlLt := SlR.imp sl_list fun x lo hi H Q ⟨a, xs, e, h, q⟩ => ⟨a, xs, e, .inl (.inl h), q⟩
/-- list(t), list(xs) -/
def rLstL : List V → Hp → VK → Prop := fun xs H Q => ∃ p ys, xs = [.ref p] ∧ H p = some (.lst ys) ∧ ∀ l, H l = none → Q (.ref l) (upd H l (.lst ys))
def rLstT : List V → Hp → VK → Prop := fun xs H Q => ∃ p ys, xs = [.ref p] ∧ H p = some (.tup ys) ∧ ∀ l, H l = none → Q (.ref l) (upd H l (.lst ys))
theorem list_L : CallR X (.type "list") rLstL := CallR.imp call_list_of fun xs H Q ⟨p, ys, e, h, q⟩ => ⟨p, ys, e, .inl (.inl (.inl h)), q⟩
theorem list_T : CallR X (.type "list") rLstT := CallR.imp call_list_of fun xs H Q ⟨p, ys, e, h, q⟩ => ⟨p, ys, e, .inr (.inl (.inl h)), q⟩
/-- all(xs), any(xs) of truth values -/
def rAllL : List V → Hp → VK → Prop := fun vs H Q => ∃ (a : Addr) (bs : List Bool), vs = [V.ref a] ∧ H a = some (.lst (bs.map V.bl)) ∧ Q (.bl (bs.all id)) H
def rAnyL : List V → Hp → VK → Prop := fun vs H Q => ∃ (a : Addr) (bs : List Bool), vs = [V.ref a] ∧ H a = some (.lst (bs.map V.bl)) ∧ Q (.bl (bs.any id)) H
theorem all_L (hc : X.calm = true) : CallR X (.builtin "all") rAllL := CallR.imp (cr_all hc) fun xs H Q ⟨p, ys, e, h, q⟩ => ⟨p, ys, e, .inl (.inl h), q⟩
theorem any_L (hc : X.calm = true) : CallR X (.builtin "any") rAnyL := CallR.imp (cr_any hc) fun xs H Q ⟨p, ys, e, h, q⟩ => ⟨p, ys, e, .inl (.inl h), q⟩
/-- s * n -/
def rMulS : R2 := fun x y H Q => ∃ z n, x = .str z ∧ y = .int n ∧ 0 ≤ n ∧ n ≤ 1000000 ∧ z.length * n.toNat ≤ 1000000 ∧ Q (.str (Txt.mul z n)) H
theorem mulOk_of {z : Str} {n : Int} (h0 : 0 ≤ n) (h : z.length * n.toNat ≤ 1000000) (hn : z.length ≠ 0 → n ≤ 1000000) (h63 : n < 2 ^ 63) : MulOk z n := by
  refine ⟨?_, fun h1 h2 => ?_, fun h1 h2 => ?_⟩
  · have a : ¬ n < -(2 ^ 63 : Int) := by omega
    have b : ¬ n ≥ 2 ^ 63 := by omega
    simp only [decide_eq_false a, decide_eq_false b, Bool.or_self]
  · simp only [Bool.or_eq_false_iff, beq_eq_false_iff_ne] at h2
    have hz := hn h2.2
    have hl : z.length ≤ 1000000 := Nat.le_trans (Nat.le_mul_of_pos_right _ (by omega)) h
    have : (2 ^ 63 - 1) / n ≥ 1000000 := by
      apply (Int.le_ediv_iff_mul_le (by omega)).mpr
      have : 1000000 * n ≤ 1000000 * 1000000 := Int.mul_le_mul_of_nonneg_left hz (by decide)
      omega
    omega
  · unfold Builtin.Str.tooLong
    rw [decide_eq_false_iff_not, sizeLine_eq]
    omega
theorem op_mul_str : OpR X (binaryOp .Mult) rMulS := by
  intro pins s σ H x y v u Q I rx ry h
  obtain ⟨z, n, rfl, rfl, h0, h1, hl, q⟩ := h
  obtain ⟨t, rfl⟩ := rx
  obtain ⟨t', rfl⟩ := ry
  exact SB.mul (mulOk_of h0 hl (fun _ => h1) (by omega)) fun t' k => ⟨.str (Txt.mul z n), H, I.tok _, ⟨_, rfl⟩, q⟩
end
/-! ### for i, c in enumerate(text) -/
def Ites (z : Str) : It :=
  ⟨fun i _ => i < z.cps.size, fun i H v H' => ∃ T c, v = .ref T ∧ H T = none ∧ H' = upd H T (.tup [.int (i : Nat), .str ⟨#[c]⟩]) ∧ z.cps[i]? = some c, fun i _ => z.cps.size ≤ i⟩
theorem strDraws {P : Program} {w : World} {A : Around} (hh : A.handled = none) (it : Addr) (x : Str) (t : Tok) : Draws P w A it [it] x.cps.size (fun i v => ∃ c u, x.cps[i]? = some c ∧ v = .str ⟨#[c]⟩ u) (fun i h => h.IsStrIter it (strIterType x) x t i) := by
  have e : strIterType x = "str_ascii_iterator" ∨ strIterType x = "str_iterator" := by
    unfold strIterType
    split
    · exact .inl rfl
    · exact .inr rfl
  rcases e with e | e
  · rw [e]; exact Draws.strAscii hh it x t
  · rw [e]; exact Draws.strWide hh it x t
theorem turn_enumS {P : Program} {w : World} {K : PySem.W.Frag} {elts : List Expr} {kk : Nat} {tpos : Pos} (x : Str) (t : Tok) (e it : Addr) :
    Turn P w K (.Tuple elts kk tpos) (Ites x) [e, it] e (fun i h => (∃ old, IsEnum h e it ((i : Nat) : Int) old) ∧ h.IsStrIter it (strIterType x) x t i ∧ i ≤ x.cps.size ∧ e ≠ it) where
  mem := by simp
  obj := fun i h st b hb => by
    obtain ⟨⟨old, he⟩, ⟨o, ho, hc, hd⟩, _⟩ := st
    have e' : b = e ∨ b = it := by simpa using hb
    rcases e' with z | z
    · rw [z]; exact ⟨_, he, fun v q => nomatch q⟩
    · rw [z]; exact ⟨o, ho, fun v q => by rw [hd] at q; cases q⟩
  keep := fun i h h' st k => let ⟨⟨old, he⟩, ⟨o, ho, hr⟩, hi, hne⟩ := st; ⟨⟨old, k e (by simp) _ he⟩, ⟨o, k it (by simp) o ho, hr⟩, hi, hne⟩
  item := by
    intro X hP hw hK hc i pins s σ H E I hf st hg
    subst hP hw hK
    obtain ⟨⟨old, he⟩, hit, hi, hne⟩ := st
    have hel : e < s.heap.objs.size := Heap.lt_size he
    have hil : it < s.heap.objs.size := by obtain ⟨_, q, _⟩ := hit; exact Heap.lt_size q
    have D := strDraws (P := X.prog) (w := X.w) (A := X.A.in1) (show X.A.in1.handled = none from I.ok.hd hc) it x t
    refine wpAny_pyNext_enum_itemD D he hit hg hne (by simpa using hne) fun u h' tk hu ho hit' hT hsz hk => ?_
    obtain ⟨c, tc, hcx, rfl⟩ := hu
    refine ⟨_, rfl, wpAny_letOwnedTupleGo_enum (s := { s with heap := h', toks := tk + 1 }) ho fun h'' he' sb => ?_⟩
    have hT2 : h''.get? s.heap.objs.size = some { cls := .type "tuple", data := .seq #[.int i tk, .str ⟨#[c]⟩ tc] } := (sb.2 _ (Nat.ne_of_gt hel)).trans hT
    have new : ObjOk X.prog X.w (upd H s.heap.objs.size (.tup [.int (i : Nat), .str ⟨#[c]⟩])) h'' s.heap.objs.size (.tup [.int (i : Nat), .str ⟨#[c]⟩]) :=
      ⟨by show 2 ≤ sizeLine; decide, [.int i tk, .str ⟨#[c]⟩ tc], .cons ⟨_, rfl⟩ (.cons ⟨_, rfl⟩ .nil), ⟨_, hT2, rfl, _, rfl⟩⟩
    have I1 : Inv X pins σ (upd H s.heap.objs.size (.tup [.int (i : Nat), .str ⟨#[c]⟩])) { s with heap := h'', toks := tk + 1 } :=
      I.turnedNew (ch := [e, it]) (fun b ob hb q => (sb.2 b (fun z => hb (by simp [z]))).trans (hk b ob (fun z => hb (by simp [z])) (fun z => hb (by simp [z])) q)) hf (Nat.le_refl _) new
    refine ⟨.ref s.heap.objs.size, _, I1, rfl, ⟨_, c, rfl, I.hok.fresh (Nat.le_refl _), rfl, hcx⟩, ⟨⟨.str ⟨#[c]⟩ tc, ?_⟩, ?_, hg, hne⟩, fun b hb => ?_⟩
    · have e1 : ((i + 1 : Nat) : Int) = (i : Int) + 1 := by omega
      rw [e1]; exact he'
    · obtain ⟨o, ho2, hr⟩ := hit'
      exact ⟨o, (sb.2 it (Ne.symm hne)).trans ho2, hr⟩
    · have hb' : b < s.heap.objs.size := by
        have e' : b = e ∨ b = it := by simpa using hb
        rcases e' with z | z
        · rw [z]; exact hel
        · rw [z]; exact hil
      rw [upd_ne (Nat.ne_of_lt hb')]
      exact (hf b hb).1
  done := by
    intro X hP hw hK hc i pins s σ H E I hf st hg
    subst hP hw hK
    obtain ⟨⟨old, he⟩, hit, hi, hne⟩ := st
    have ei : i = x.cps.size := Nat.le_antisymm hi hg
    subst ei
    obtain ⟨f0, f1, f2, f3, f4, f5⟩ := hf it (by simp)
    have D := strDraws (P := X.prog) (w := X.w) (A := X.A.in1) (show X.A.in1.handled = none from I.ok.hd hc) it x t
    exact wpAny_pyNext_enum_endD D he hit fun h' eb => ⟨rfl, I.turned (t' := s.toks) (fun b o hb q => eb b o hb q) f0 f1 f3 f4 f5⟩
  self := fun A i s Q E st h => let ⟨⟨_, he⟩, _⟩ := st; wpAny_pyIter_enum he h
def iEnumS (ta : TA) : TI := fun σ H R => ta σ H fun vs H1 => ∃ z, vs = [.str z] ∧ R (Ites z) H1
theorem pi_enumS {X : Cx} {e : Expr} {ta : TA} {p pos tpos : Pos} {elts : List Expr} {kk : Nat} (hg : Gl X "enumerate") (hm : X.mg "enumerate" = none) (ha : PA X [e] ta) (hs : starEach [e] X.env = [(false, eval e X.env)] := by rfl) :
    PI X (.Tuple elts kk tpos) (.Call (.Name "enumerate" p) [e] [] pos) (iEnumS ta) := by
  refine ⟨fun pins s σ H R I h => ?_⟩
  refine Call_ (ld_blt I hg hm boot_enumerate (PyProof.Rows.callWith_type1 (thn (ha.run pos pins s σ H _ I h) fun us s1 ⟨vs, H1, I1, r1, q1⟩ => ?_) hs rfl))
  obtain ⟨z, ex, q⟩ := q1
  subst ex
  cases r1 with
  | cons r rr =>
    cases rr
    obtain ⟨t, rfl⟩ := r
    refine call_enumerate_str fun h' he hit hsz hk => wpAny_pyIter_enum he ?_
    have I2 : Inv X pins σ H1 { s1 with heap := h' } := I1.kept (t' := s1.toks) hk
    refine ⟨s1.heap.objs.size + 1, [s1.heap.objs.size + 1, s1.heap.objs.size], _, _, H1, rfl, I2, turn_enumS z t (s1.heap.objs.size + 1) s1.heap.objs.size, ⟨⟨.none, he⟩, hit, Nat.zero_le _, Nat.succ_ne_self _⟩, fun b hb => ?_, q⟩
    have e' : b = s1.heap.objs.size + 1 ∨ b = s1.heap.objs.size := by simpa using hb
    have hle : s1.heap.objs.size ≤ b := by
      rcases e' with z | z
      · rw [z]; exact Nat.le_add_right _ _
      · rw [z]; exact Nat.le_refl _
    exact I1.fpOk hle (I1.hok.fresh hle)
/-- the loop over enumerate(text), by an invariant -/
theorem for_enumS {z : Str} {g : TG} {tb : TS} {D : Ends} {σ : L2.St} {H1 : Hp} (Pv : Nat → L2.St → Hp → Prop) (h0 : Pv 0 σ H1)
    (hs : ∀ i c T σ H, z.cps[i]? = some c → Pv i σ H → H T = none → g (.ref T) σ (upd H T (.tup [.int (i : Nat), .str ⟨#[c]⟩])) fun σ' H' => tb { nx := fun σ H => Pv (i + 1) σ H, rt := D.rt, bk := D.nx, ct := fun σ H => Pv (i + 1) σ H } σ' H')
    (hd : ∀ σ H, Pv z.cps.size σ H → D.nx σ H) : ∃ W : Nat → Nat → L2.St → Hp → Prop, (∃ m, W 0 m σ H1) ∧ ∀ i m σ H, W i m σ H →
      ((Ites z).stop i H ∧ D.nx σ H) ∨ ((Ites z).go i H ∧ ∃ N : L2.St → Hp → Prop, (∀ σ' H', N σ' H' → ∃ m', m' < m ∧ W (i + 1) m' σ' H') ∧ ∀ x H', (Ites z).yld i H x H' → g x σ H' fun σ2 H2 => tb { nx := N, rt := D.rt, bk := D.nx, ct := N } σ2 H2) := by
  refine ⟨fun i m σ H => m = z.cps.size - i ∧ i ≤ z.cps.size ∧ Pv i σ H, ⟨_, rfl, Nat.zero_le _, h0⟩, ?_⟩
  rintro i m σ H ⟨rfl, hi, p⟩
  by_cases hlt : i < z.cps.size
  · refine .inr ⟨hlt, fun σ' H' => Pv (i + 1) σ' H', fun σ' H' q => ⟨z.cps.size - (i + 1), by omega, rfl, hlt, q⟩, fun x H' hy => ?_⟩
    obtain ⟨T, c, rfl, nT, rfl, hc⟩ := hy
    exact hs i c T σ H hc p nT
  · have ei : i = z.cps.size := by omega
    subst ei
    exact .inl ⟨Nat.le_refl _, hd σ H p⟩
end Fx
/-! == of flat lists; isinstance of built-in classes -/
namespace Fx
open PySem PySem.Spec PyProof.Rows L2
/-- None, an int, a text: two of these are equal in Python just if they are the same -/
def isF : V → Bool
  | .non => true
  | .int _ => true
  | .str x => PyData.strOk x
  | _ => false
def datV : V → PyData
  | .non => .none
  | .int i => .int i
  | .str x => .str x
  | _ => .none
theorem eqv_dat {x y : V} (hx : isF x = true) (hy : isF y = true) : PyData.eqv (datV x) (datV y) = decide (x = y) := by
  cases x <;> cases y <;> first | (exfalso; revert hx; simp [isF]; done) | (exfalso; revert hy; simp [isF]; done) | (simp [datV, PyData.eqv]; done) | (simp only [datV, PyData.eqv, V.int.injEq, V.str.injEq]; exact Bool.eq_iff_iff.mpr (by simp)) 
theorem eqvAll_dat : ∀ {xs ys : List V}, xs.all isF = true → ys.all isF = true → PyData.eqvAll (xs.map datV) (ys.map datV) = decide (xs = ys)
  | [], [], _, _ => by simp [PyData.eqvAll]
  | [], _ :: _, _, _ => by simp [PyData.eqvAll]
  | _ :: _, [], _, _ => by simp [PyData.eqvAll]
  | x :: xs, y :: ys, hx, hy => by
    simp only [List.all_cons, Bool.and_eq_true] at hx hy
    simp only [List.map_cons, PyData.eqvAll, eqv_dat hx.1 hy.1, eqvAll_dat hx.2 hy.2]
    by_cases e : x = y <;> simp [e]
theorem dp_dat {K : PySem.W.Frag} {H : Hp} {x : V} (hx : isF x = true) : Dp K H x (datV x) := by
  cases x <;> first | (exfalso; revert hx; simp [isF]; done) | exact .non | exact .int _ | exact .str _
theorem dpAll_dat {K : PySem.W.Frag} {H : Hp} : ∀ {xs : List V}, xs.all isF = true → DpAll K H xs (xs.map datV)
  | [], _ => .nil
  | x :: xs, hx => by
    simp only [List.all_cons, Bool.and_eq_true] at hx
    exact .cons (dp_dat hx.1) (dpAll_dat hx.2)
theorem lay_flat : ∀ {xs : List V}, xs.all isF = true → PyData.canLayAll0 (xs.map datV) = true ∧ PyData.depthAll (xs.map datV) = 0
  | [], _ => by simp [PyData.canLayAll0, PyData.depthAll]
  | x :: xs, hx => by
    simp only [List.all_cons, Bool.and_eq_true] at hx
    obtain ⟨h1, h2⟩ := lay_flat hx.2
    have h3 : PyData.canLay0 (datV x) = true ∧ PyData.depth (datV x) = 0 := by
      have hx1 := hx.1
      cases x <;> first | (exfalso; revert hx1; simp [isF]; done) | exact ⟨by simpa [datV, PyData.canLay0, isF] using hx1, by simp [datV, PyData.depth]⟩
    simp [PyData.canLayAll0, PyData.depthAll, h1, h2, h3.1, h3.2]
theorem shaped_flat {xs : List V} (hx : xs.all isF = true) : SeqAt.shaped (.list (xs.map datV)) = true := by
  obtain ⟨h1, h2⟩ := lay_flat hx
  simp [SeqAt.shaped, PyData.canLay0, PyData.depth, h1, h2]
def rEqL : R2 := fun x y H Q => ∃ p q xs ys, x = .ref p ∧ y = .ref q ∧ H p = some (.lst xs) ∧ H q = some (.lst ys) ∧ xs.all isF = true ∧ ys.all isF = true ∧ Q (.bl (decide (xs = ys))) H
theorem eq_LL {X : Cx} (hu : X.A.units + 64 < cLine) : OpR X (compareOp .Eq) rEqL := by
  intro pins s σ H x y v u Q I rx ry h
  obtain ⟨p, q, xs, ys, rfl, rfl, hp, hq, fx, fy, k⟩ := h
  refine op_eqD hu pins s σ H _ _ v u Q I rx ry ⟨.list (xs.map datV), .list (ys.map datV), .lst (.inl (.inl hp)) (dpAll_dat fx), .lst (.inl (.inl hq)) (dpAll_dat fy), shaped_flat fx, shaped_flat fy, ?_⟩
  rw [PyData.eqv, eqvAll_dat fx fy]
  exact k
/-- what built-in type a value is of -/
def tyv (H : Hp) : V → Option String
  | .non => some "NoneType"
  | .bl _ => some "bool"
  | .int _ => some "int"
  | .str _ => some "str"
  | .byt _ => some "bytes"
  | .ref a => (match H a with
    | some (.lst _) => some "list"
    | some (.tup _) => some "tuple"
    | some (.dK _) => some "dict"
    | some (.dT _) => some "dict"
    | _ => none)
  | _ => none
theorem tyv_ok {K : PySem.W.Frag} {H : Hp} {x : V} {t : String} (h : tyv H x = some t) : TyX K H x (.type t) := by
  cases x with
  | non => cases h; exact .base .non
  | bl b => cases h; exact .base (.bl b)
  | int i => cases h; exact .base (.int i)
  | str z => cases h; exact .base (.str z)
  | byt b => cases h; exact .byt b
  | flt b => cases h
  | ty n => cases h
  | ref a =>
    simp only [tyv] at h
    cases e : H a with
    | none => simp only [e] at h; cases h
    | some o =>
      simp only [e] at h
      cases o <;> first | (cases h; done) | (cases h; exact .base (.lst e)) | (cases h; exact .base (.tup e)) | (cases h; exact .base (.dK e)) | (cases h; exact .base (.dT e))
section
variable {H : Hp} {a : Addr} {xs : List V} {kvs : List (Key × V)}
theorem tyv_non : tyv H .non = some "NoneType" := rfl
theorem tyv_bl {b : Bool} : tyv H (.bl b) = some "bool" := rfl
theorem tyv_int {i : Int} : tyv H (.int i) = some "int" := rfl
theorem tyv_str {z : Str} : tyv H (.str z) = some "str" := rfl
theorem tyv_lst (h : H a = some (.lst xs)) : tyv H (.ref a) = some "list" := by simp only [tyv, h]
theorem tyv_tup (h : H a = some (.tup xs)) : tyv H (.ref a) = some "tuple" := by simp only [tyv, h]
theorem tyv_dK (h : H a = some (.dK kvs)) : tyv H (.ref a) = some "dict" := by simp only [tyv, h]
end
def rIsB : List V → Hp → VK → Prop := fun xs H Q => ∃ x n, xs = [x, .ty n] ∧ ∃ t, tyv H x = some t ∧ ∃ b, kitB t n = some b ∧ Q (.bl b) H
theorem is_B {X : Cx} : CallR X (.builtin "isinstance") rIsB := CallR.imp call_isi fun xs H Q ⟨x, n, e, t, ht, b, hb, q⟩ => ⟨x, .ty n, .type t, .type n, b, e, .ty n, tyv_ok ht, kit_ty hb, q⟩
theorem kb_int_int : kitB "int" "int" = some true := by decide +kernel
theorem kb_int_bool : kitB "int" "bool" = some false := by decide +kernel
theorem kb_bool_int : kitB "bool" "int" = some true := by decide +kernel
theorem kb_bool_bool : kitB "bool" "bool" = some true := by decide +kernel
theorem kb_str_str : kitB "str" "str" = some true := by decide +kernel
theorem kb_int_str : kitB "int" "str" = some false := by decide +kernel
theorem kb_bool_str : kitB "bool" "str" = some false := by decide +kernel
theorem kb_none_str : kitB "NoneType" "str" = some false := by decide +kernel
theorem kb_list_str : kitB "list" "str" = some false := by decide +kernel
theorem kb_tuple_str : kitB "tuple" "str" = some false := by decide +kernel
theorem kb_dict_str : kitB "dict" "str" = some false := by decide +kernel
theorem kb_tuple_tuple : kitB "tuple" "tuple" = some true := by decide +kernel
theorem kb_list_list : kitB "list" "list" = some true := by decide +kernel
end Fx
/-! A def whose body begins with a token out (for str.replace): with cells too -/
namespace Fx
open PySem PySem.Spec PyProof.Rows L2
section
variable {M : Model} {A : Around} {E : Value → Shared → Prop} {s₀ s : Shared} {m cm : Str → Option Value} {env : Env}
theorem stLCT {n : Str} {v : Value} {Q : Unit → Shared → Prop} (x : InCallC s₀ env.locals m env.cells cm s) (hk : env.scope.kind = .function) (hl : env.kindOf n = some .local)
    (h : ∀ s', InCallC s₀ env.locals (fun y => if y = n then some v else m y) env.cells cm s' → 1 ≤ s'.toks → Q () s') : wpAny M A (storeName env n v) Q E s := by
  refine wpAny_storeName_local hl x.toInCall.ns (fun h' hn' hs' => h _ ⟨⟨?_, hn', fun b o e => ?_, x.toInCall.fresh⟩, fun k c hc => ?_, x.apart, x.above⟩ (Nat.le_add_left _ _)) (by rw [hk]; rfl)
  · obtain ⟨h₁, tk, rfl⟩ := x.toInCall.same
    exact ⟨h', _, rfl⟩
  · exact hs'.extBut b o (Nat.ne_of_lt (Nat.lt_of_lt_of_le (Heap.lt_size e) x.toInCall.fresh)) (x.toInCall.keep b o e)
  · exact (x.cell k c hc).sameBut hs' (Nat.ne_of_gt (x.above k c (mem_of_lookup hc)))
theorem bindParamsT (f : Str × Value → PUnit → Sem (ForInStep PUnit)) (hf : ∀ n v u, f (n, v) u = (do storeName env n v; pure (.yield ⟨⟩))) (hk : env.scope.kind = .function)
    (n : Str) (v : Value) (r : List (Str × Value)) (hl : env.kindOf n = some .local) (m cm : Str → Option Value) (s : Shared) (Q : PUnit → Shared → Prop) (x : InCallC s₀ env.locals m env.cells cm s)
    (hkind : ∀ y ∈ r, env.kindOf y.1 = some .local ∨ (env.kindOf y.1 = some .cell ∧ (env.cells.lookup y.1).isSome = true))
    (h : ∀ s', InCallC s₀ env.locals (bindL env.kindOf ((n, v) :: r) m) env.cells (bindC env.kindOf ((n, v) :: r) cm) s' → 1 ≤ s'.toks → Q ⟨⟩ s') : wpAny M A (forIn ((n, v) :: r) ⟨⟩ f) Q E s := by
  rw [List.forIn_cons, hf]
  refine wpAny_bind (wpAny_bind (stLCT x hk hl fun s' x' ht => wpAny_pure ?_))
  refine wpAny_with_toks ht (wpAny_bindParams f hf hk r _ _ s' (fun u s'' => 1 ≤ s''.toks → Q u s'') x' hkind fun s'' x'' ht' => h s'' ?_ ht')
  unfold bindL bindC
  rw [if_pos hl, if_pos hl]
  exact x''
end
section
variable {M : Model} {A : Around} {E : Value → Shared → Prop} {s : Shared}
theorem newFunctionEnvT {scope : Scope} {globals : Addr} {n : Str} {v : Value} {r : List (Str × Value)} {qual : Str} {func : Option Addr} {code : Value} {builtins : Addr} {Q : Env → Shared → Prop}
    (hk : scope.kind = .function) (hl : scope.names.lookup n = some .local)
    (hkind : ∀ x ∈ r, scope.names.lookup x.1 = some .local ∨ (scope.names.lookup x.1 = some .cell ∧ ((cellsFrom (s.heap.objs.size + 1) scope.names []).lookup x.1).isSome = true))
    (hQ : ∀ env, env = newEnv scope s.heap.objs.size globals (cellsFrom (s.heap.objs.size + 1) scope.names []) qual func code none builtins →
      ∀ s', InCallC s env.locals (bindL env.kindOf ((n, v) :: r) fun _ => none) env.cells (bindC env.kindOf ((n, v) :: r) fun _ => none) s' → 1 ≤ s'.toks → Q env s') :
    wpAny M A (newFunctionEnv scope globals [] ((n, v) :: r) qual func code none builtins) Q E s := by
  simp only [newFunctionEnv, Option.isSome_none, Bool.false_eq_true, if_false]
  refine wpAny_bind (wpAny_alloc ?_)
  refine wpAny_bind (wpAny_layCells _ (fun name kind cells => by cases hkc : kind == NameKind.cell <;> simp [hkc]) _ _ _ _ ?_)
  have ok := cellsFrom_ok scope.names (s.heap.push { cls := .type "frame", data := .dict #[] }) (s.heap.objs.size + 1) [] ⟨fun _ _ hm => (nomatch hm), List.Pairwise.nil⟩ (by rw [Heap.size_push]; exact Nat.le_refl _)
  rw [Heap.size_push] at ok
  rw [show ({ s with heap := s.heap.push { cls := .type "frame", data := .dict #[] } } : Shared).heap.objs.size = s.heap.objs.size + 1 from Heap.size_push ..]
  refine wpAny_bind (bindParamsT (s₀ := s) (env := newEnv scope s.heap.objs.size globals (cellsFrom (s.heap.objs.size + 1) scope.names []) qual func code none builtins)
    _ (fun _ _ _ => rfl) hk n v r hl (fun _ => none) (fun _ => none) _ _
    ⟨⟨⟨_, _, rfl⟩, (Heap.Ns.new s.heap (.type "frame")).keeps (pushCells_keeps _ _), fun b o e => pushCells_keeps _ _ b o (Heap.get?_push_of_some _ e), Nat.le_refl _⟩,
      fun n c hc => (ok.empty n c (mem_of_lookup hc)).1, ok.apart, fun n c hm => (ok.empty n c hm).2⟩
    hkind fun s' x ht => wpAny_pure (hQ _ rfl s' x ht))
end
/-- a def's body, a token out when it begins; its first parameter is a local -/
theorem fn_ofTC {CX : CXT} {P : Program} {w : World} {K : PySem.W.Frag} {mg : Str → Option Value} {base : Heap} {k : Nat} {f : Addr} {name qual : Str} {params : Arguments} {body : List Stmt} {scope : Scope} {dV kV doc pm cdv ct oc : Value} {an od : Option Addr}
    {osl : Array (Option Value)} {N ps : List Str} {x0 : Str} {sp : Sp} (lk : K.lookup f = some ⟨oc, od, .func (PySem.W.fnOf name qual params body scope dV kV doc pm an cdv ct), osl⟩) (hcd : PySem.W.codeIn K cdv qual = true) (S : FnScope N (x0 :: ps) scope)
    (h0 : scope.names.lookup x0 = some .local) (len : ∀ vs H Q E, sp vs H Q E → vs.length = (x0 :: ps).length)
    (hbody : ∀ (A : Around) (outer : List Env) (s : Shared) (H : Hp) (vs : List V) (Q : VK) (E : XK), Room k (A.deeper (envOfC qual scope s.heap.objs.size f cdv)) → sp vs H Q E →
      ∃ t, PSsT (cxOf CX P w K mg base N qual scope f cdv A outer s H E) body t ∧ t { nx := fun _ H' => Q .non H', rt := Q } (L2.start N vs) H) :
    FnOk P w K mg base CX (k + 1) f (PySem.W.fnOf name qual params body scope dV kV doc pm an cdv ct) (x0 :: ps) sp := by
  refine ⟨len, fun A outer s H args us vs Q E hr e0 hb r hsp => ?_⟩
  have hl := len _ _ _ _ hsp
  have KX : K.In s.heap := e0.mod.kin.keeps fun b o e => (e0.bs b o e).1
  have lim : s.heap.NoLimit := e0.mod.nolimit.keeps fun b o e => (e0.bs b o e).1
  have hul : us.length = (x0 :: ps).length := by rw [← r.length, hl]
  obtain ⟨u0, ur, rfl⟩ : ∃ u0 ur, us = u0 :: ur := by
    cases us with
    | nil => cases hul
    | cons a b => exact ⟨a, b, rfl⟩
  have hkind : ∀ y ∈ ps.zip ur, scope.names.lookup y.1 = some .local ∨ (scope.names.lookup y.1 = some .cell ∧ ((cellsFrom (s.heap.objs.size + 1) scope.names []).lookup y.1).isSome = true) := fun ⟨n, v⟩ hy => by
    rcases S.par n (List.mem_cons_of_mem _ (List.of_mem_zip hy).1) with q | q
    · exact .inl q
    · exact .inr ⟨q, PySem.W.cellsFrom_some _ _ _ (.inl q)⟩
  refine codeAny_call_function hr.depth (KX _ _ lk) rfl S.co S.gen rfl (PySem.W.codeRec_of KX hcd) (hb _ _ _ _ ?_)
  show wpAny _ _ (newFunctionEnv scope _ [] ((x0, u0) :: ps.zip ur) _ _ _ _ _) _ _ _
  refine newFunctionEnvT S.kind h0 hkind fun env he s1 x ht => ?_
  subst he
  refine ⟨lim.keeps x.toInCall.keep, codeAny_func ?_⟩
  obtain ⟨t, hT, hq⟩ := hbody A outer s H vs Q E (hr.deeper _) hsp
  have I : Inv (cxOf CX P w K mg base N qual scope f cdv A outer s H E) [] (L2.start N vs) H s1 := inv_start S hr.hd e0 hl r x
  refine wpAny_mono (hT [] s1 (L2.start N vs) H _ ht I hq) (fun fl s' hs => ?_) fun e s' hs => hs
  have fin : ∀ {σ' : L2.St} {H' : Hp} {v : V} {u : Value}, Inv (cxOf CX P w K mg base N qual scope f cdv A outer s H E) [] σ' H' s' → RelV v u → Q v H' → CE outer P w H s Q u s' :=
    fun {σ' H' v u} J rv q => ⟨v, H', J.os, J.bare, J.base, J.hok, rv, q⟩
  cases fl with
  | ret u =>
    obtain ⟨v, σ', H', J, rv, q⟩ := hs
    exact fin J rv q
  | next =>
    obtain ⟨σ', H', J, q⟩ := hs
    exact fin (v := V.non) (u := Value.none) J rfl q
  | brk =>
    obtain ⟨_, _, _, q⟩ := hs
    exact False.elim q
  | cont =>
    obtain ⟨_, _, _, q⟩ := hs
    exact False.elim q
/-! ### tests, calls, slices with a token out -/
section
variable {X : Cx}
def PTT (X : Cx) (e : Expr) (t : TT) : Prop := ∀ (pins : List (Addr × Obj)) (s : Shared) (σ : L2.St) (H : Hp) (Q : Bool → Hp → Prop), 1 ≤ s.toks → Inv X pins σ H s → t σ H Q → wpAny (model X.prog X.w) X.A (isTrue e X.env (eval e X.env)) (TP X pins σ Q) X.xe s
def PWT (X : Cx) (e : Expr) (t : TT) : Prop := ∀ (whole : Sem Value) (pins : List (Addr × Obj)) (s : Shared) (σ : L2.St) (H : Hp) (Q : Bool → Hp → Prop), 1 ≤ s.toks → Inv X pins σ H s → t σ H Q → wpAny (model X.prog X.w) X.A (isTrue e X.env whole) (TP X pins σ Q) X.xe s
theorem PWT.pt {e : Expr} {t : TT} (h : PWT X e t) : PTT X e t := h _
theorem ptt_val {e : Expr} {t : TE} (h : PET X e t) (he : ∀ whole, isTrue e X.env whole = (do let v ← whole; standAt e.pos; holding [v] (truthy v)) := by intro _; rfl) : PTT X e (tB t) := by
  intro pins s σ H Q ht I hw
  refine isTrue_plain (thn (h pins s σ H _ ht I hw) fun v s1 ⟨x, H1, I1, r1, q1⟩ => ?_) (he _)
  obtain ⟨d, rfl, q⟩ := q1
  cases r1
  exact wpAny_truthy_bool ⟨H1, I1, q⟩
theorem ptt_not {a : Expr} {tA : TT} {pos : Pos} (ha : PTT X a tA) : PTT X (.UnaryOp .Not a pos) (tNot tA) := by
  intro pins s σ H Q ht I h
  exact isTrue_not (ha pins s σ H (fun c H1 => Q (!c) H1) ht I h)
theorem pwt_or1 {a : Expr} {tA : TT} {pos : Pos} (ha : PTT X a tA) : PWT X (.BoolOp .Or [a] pos) tA := by
  intro wh pins s σ H Q ht I h
  refine isTrue_or (thn (ha pins s σ H Q ht I h) fun c s1 e => ?_)
  cases c with
  | false => exact isTrue_or_nil e
  | true => exact e
theorem pwt_or {a b : Expr} {rest : List Expr} {tA tB' : TT} {pos : Pos} (ha : PT X a tA) (hb : PWT X (.BoolOp .Or (b :: rest) pos) tB') : PWT X (.BoolOp .Or (a :: b :: rest) pos) (tOr tA tB') := by
  intro wh pins s σ H Q ht I h
  refine isTrue_or (wpAny_mono (wpAny_toks_of ht (ha.run pins s σ H _ I h)) (fun c s1 z => ?_) fun _ _ z => z.2)
  obtain ⟨ht1, H1, I1, q1⟩ := z
  cases c with
  | true => exact ⟨H1, I1, q1⟩
  | false => exact hb wh pins s1 σ H1 Q ht1 I1 q1
theorem pst_ifT {c : Expr} {a b : List Stmt} {tc : TT} {t u : TS} {pos : Pos} (hc : PTT X c tc) (ha : PSs X a t) (hb : PSs X b u) : PST X (.If c a b pos) (tIfS tc t u) := by
  intro pins s σ H D ht I h
  refine wpAny_If (thn (hc pins s σ H _ ht I h) fun d s1 ⟨H1, I1, q1⟩ => ?_)
  cases d with
  | true => exact ha.run pins s1 σ H1 D I1 q1
  | false => exact hb.run pins s1 σ H1 D I1 q1
theorem psst_s {st : Stmt} {rest : List Stmt} {t u : TS} (h1 : PS X st t) (h2 : PSsT X rest u) : PSsT X (st :: rest) (tSeq t u) := psst_cons (PST.of h1) h2
def noSt : Stmt := .Pass ⟨0, 0, 0, 0⟩
theorem drop_at : ∀ (l : List Stmt) (i : Nat), i < l.length → l.drop i = l.getD i noSt :: l.drop (i + 1)
  | [], i, h => absurd h (Nat.not_lt_zero _)
  | a :: l, 0, _ => rfl
  | a :: l, i + 1, h => drop_at l i (Nat.lt_of_succ_lt_succ h)
/-- PSsT behind a structure: a def that unfolds to a ∀ is walked by the elaborator after every application -/
structure PZ (X : Cx) (l : List Stmt) (t : TS) : Prop where
  run : PSsT X l t
structure PZ1 (X : Cx) (st : Stmt) (t : TS) : Prop where
  run : PST X st t
theorem PZ.of {l : List Stmt} {t : TS} (h : PSs X l t) : PZ X l t := ⟨PSsT.of h⟩
theorem pz_at1 {l : List Stmt} {i : Nat} {t u : TS} (h : i < l.length) (h1 : PZ1 X (l.getD i noSt) t) (h2 : PZ X (l.drop (i + 1)) u) : PZ X (l.drop i) (tSeq t u) := by
  refine ⟨?_⟩
  rw [drop_at l i h]
  exact psst_cons h1.run h2.run
theorem pz_at {l : List Stmt} {i : Nat} {t u : TS} (h : i < l.length) (h1 : PS X (l.getD i noSt) t) (h2 : PZ X (l.drop (i + 1)) u) : PZ X (l.drop i) (tSeq t u) := pz_at1 h ⟨PST.of h1⟩ h2
theorem pz_at0 {l : List Stmt} {t : TS} (h : PZ X (l.drop 0) t) : PZ X l t := h
theorem pz_ifT {c : Expr} {a b : List Stmt} {tc : TT} {t u : TS} {pos : Pos} (hc : PTT X c tc) (ha : PSs X a t) (hb : PSs X b u) : PZ1 X (.If c a b pos) (tIfS tc t u) := ⟨pst_ifT hc ha hb⟩
theorem pss_at {l : List Stmt} {i : Nat} {t u : TS} (h : i < l.length) (h1 : PS X (l.getD i noSt) t) (h2 : PSs X (l.drop (i + 1)) u) : PSs X (l.drop i) (tSeq t u) := by
  rw [drop_at l i h]
  exact pss_cons h1 h2
theorem pss_at0 {l : List Stmt} {t : TS} (h : PSs X (l.drop 0) t) : PSs X l t := h
theorem pet_slice {e : Expr} {te : TE} {lo hi : Option Expr} {tl th : TO} {p2 pos : Pos} {r : V → Option Int → Option Int → Hp → VK → Prop} (hr : SlR X r) (he : PET X e te) (hl : PO X lo tl) (hu : PO X hi th) : PET X (.Subscript e (.Slice lo hi none p2) pos) (tSl r te tl th) := by
  intro pins s σ H Q ht I h
  refine Subscript_ (thn (he pins s σ H _ ht I h) fun v s1 ⟨x, H1, I1, r1, q1⟩ => ?_)
  refine wpAny_Slice (thn (hl.run pins s1 σ H1 _ I1 q1) fun vl s2 ⟨l, H2, I2, pl, q2⟩ => thn (hu.run pins s2 σ H2 _ I2 q2) fun vu s3 ⟨u, H3, I3, pu, q3⟩ => ?_)
  rw [evalPart_none]
  refine wpAny_pure ?_
  have I4 : Inv X pins σ H3 { s3 with heap := s3.heap.push { cls := .type "slice", data := .fields #[vl, vu, .none] } } := I3.kept (t' := s3.toks) fun b ob q => Heap.get?_push_of_some _ q
  obtain ⟨T, id, hT, ht, hg⟩ := hr pins { s3 with heap := s3.heap.push { cls := .type "slice", data := .fields #[vl, vu, .none] } } σ H3 x v vl vu l u s3.heap.objs.size Q I4 r1 (Heap.IsSliceOf.new ..) pl pu q3
  show wpAny (model X.prog X.w) X.A (subscriptTail e (.Slice lo hi none p2) v (.ref s3.heap.objs.size)) (EP X pins σ Q) X.xe { s3 with heap := s3.heap.push { cls := .type "slice", data := .fields #[vl, vu, .none] } }
  exact tail_any (ops := [.ref s3.heap.objs.size, v]) ht hT hg (by with_unfolding_all rfl)
theorem pet_cal {x : Str} {ps : List Str} {sp : Sp} {k : Nat} {CX : CXT} {E : XK} {e : Expr} {es : List Expr} {t : TA} {p pos : Pos} (C : Cal X.prog X.w X.K X.mg X.base CX k x ps sp) (hr : Room k X.A) (hx : Passes CX X E) (ha : PAT X (e :: es) t) (hg : Gl X x := by rfl) (hdb : (x == ("__debug__" : Str)) = false := by decide)
    (hs : (e :: es).all nostar = true := by rfl) : PET X (.Call (.Name x p) (e :: es) [] pos) (tCall sp [] E t) := by
  obtain ⟨f, fd, g, kp, b, F⟩ := C.ex
  simp only [List.all_cons, Bool.and_eq_true] at hs
  intro pins s σ H Q ht I h
  refine wpAny_Call_Name_kw (ld_glob I hg g ?_ hdb)
  refine PySem.W.callWith_K (h₀ := X.base) I.ok.mod.kin kp (thn (ha pos pins s σ H _ ht I h) fun us s1 ⟨vs, H1, I1, r, q⟩ => ⟨I1.kIn, ?_⟩) (star_ok hs.1) (back_ok hs.2)
  exact run_fn F hr b .nil hx I1 r q
end
section
variable {P : Program} {w : World} {K : PySem.W.Frag} {mg : Str → Option Value} {base : Heap} {x x0 : Str} {st : Stmt} {N ps : List Str} {k : Nat} {sp : Sp}
theorem Src.calT (S : Src K mg x st) (sc : FnScope N (x0 :: ps) (defScope st)) (bn : BindP x st (x0 :: ps)) (h0 : (defScope st).names.lookup x0 = some .local) (len : ∀ vs H Q E, sp vs H Q E → vs.length = (x0 :: ps).length)
    (hbody : ∀ (f : Addr) (cdv : Value) (A : Around) (outer : List Env) (s : Shared) (H : Hp) (vs : List V) (Q : VK) (E : XK), Room k (A.deeper (envOfC x (defScope st) s.heap.objs.size f cdv)) → sp vs H Q E →
      ∃ t, PZ (cxOf CX0 P w K mg base N x (defScope st) f cdv A outer s H E) (defBody st) t ∧ t { nx := fun _ H' => Q .non H', rt := Q } (L2.start N vs) H) : Cal P w K mg base CX0 (k + 1) x (x0 :: ps) sp := by
  obtain ⟨f, fd, g, F⟩ := S
  refine ⟨f, fd, g, F.kp, F.bindsN bn, ?_⟩
  obtain ⟨oc, od, dV, kV, doc, pm, an, cdv, ct, osl, rfl, lk, hcd, _, _⟩ := F.ex
  exact fn_ofTC lk hcd sc h0 len fun A outer s H vs Q E hr hsp => by
    obtain ⟨t, h1, h2⟩ := hbody f cdv A outer s H vs Q E hr hsp
    exact ⟨t, h1.run, h2⟩
end
/-! ### the law's own def -/
section
variable {P : Program} {w : World} {K : PySem.W.Frag} {mg : Str → Option Value} {base : Heap} {x x0 : Str} {st : Stmt} {N ps : List Str} {k : Nat} {sp : Sp} {f : Addr} {fd : FuncData}
theorem lawT (F : FunD K x x (defArgs st) (defBody st) (defScope st) [] [] f fd) (sc : FnScope N (x0 :: ps) (defScope st)) (h0 : (defScope st).names.lookup x0 = some .local) (len : ∀ vs H Q E, sp vs H Q E → vs.length = (x0 :: ps).length)
    (hbody : ∀ (f : Addr) (cdv : Value) (A : Around) (outer : List Env) (s : Shared) (H : Hp) (vs : List V) (Q : VK) (E : XK), Room k (A.deeper (envOfC x (defScope st) s.heap.objs.size f cdv)) → sp vs H Q E →
      ∃ t, PZ (cxOf CX0 P w K mg base N x (defScope st) f cdv A outer s H E) (defBody st) t ∧ t { nx := fun _ H' => Q .non H', rt := Q } (L2.start N vs) H) : FnOk P w K mg base CX0 (k + 1) f fd (x0 :: ps) sp := by
  obtain ⟨oc, od, dV, kV, doc, pm, an, cdv, ct, osl, rfl, lk, hcd, _, _⟩ := F.ex
  exact fn_ofTC lk hcd sc h0 len fun A outer s H vs Q E hr hsp => by
    obtain ⟨t, h1, h2⟩ := hbody f cdv A outer s H vs Q E hr hsp
    exact ⟨t, h1.run, h2⟩
theorem law0 (F : FunD K x x (defArgs st) (defBody st) (defScope st) [] [] f fd) (sc : FnScope N ps (defScope st)) (len : ∀ vs H Q E, sp vs H Q E → vs.length = ps.length)
    (hbody : ∀ (f : Addr) (cdv : Value) (A : Around) (outer : List Env) (s : Shared) (H : Hp) (vs : List V) (Q : VK) (E : XK), Room k (A.deeper (envOfC x (defScope st) s.heap.objs.size f cdv)) → sp vs H Q E →
      ∃ t, PSs (cxOf CX0 P w K mg base N x (defScope st) f cdv A outer s H E).nox (defBody st) t ∧ t { nx := fun _ H' => Q .non H', rt := Q } (L2.start N vs) H) : FnOk P w K mg base CX0 (k + 1) f fd ps sp := by
  refine F.ok sc len fun cdv A outer s H vs Q E hr hsp => ?_
  obtain ⟨t, h, q⟩ := hbody f cdv A outer s H vs Q E hr hsp
  exact ⟨t, h.nox, q⟩
theorem cst_int {i : Int} (h : ∃ t, mg x = some (.int i t)) : Cst mg x (.int i) := by
  obtain ⟨t, h⟩ := h
  exact ⟨_, h, ⟨t, rfl⟩⟩
theorem cst_ref {a : Addr} (h : mg x = some (.ref a)) : Cst mg x (.ref a) := ⟨_, h, rfl⟩
theorem cst_str {z : Str} (h : ∃ t, mg x = some (.str z t)) : Cst mg x (.str z) := by
  obtain ⟨t, h⟩ := h
  exact ⟨_, h, ⟨t, rfl⟩⟩
end
end Fx
/-! for i, x in enumerate(t), t a tuple; a list or a tuple -/
namespace Fx
open PySem PySem.Spec PyProof.Rows L2
open AutoSeq1 (wpAny_loadPart')
theorem enum_newT (l : Addr) (items : Array Value) (n : Nat) (dct : Option Addr) (sl : Array (Option Value)) :
    Meets (Builtin.«enumerate.__new__» ⟨[.type "enumerate", .ref l], []⟩) (fun _ R s => s.heap.get? l = some { cls := .type "tuple", dict := dct, data := .seq items n, slots := sl } ∧
      R (.ok (.ret (.ref (s.heap.push { cls := .type "tuple_iterator", data := .fields #[.ref l, .int 0 0] }).objs.size)))
        { s with heap := (s.heap.push { cls := .type "tuple_iterator", data := .fields #[.ref l, .int 0 0] }).push { cls := .type "enumerate", data := .fields #[.none, .bool false, .ref s.heap.objs.size, rawInt 0, .none, .none] } }) :=
  .of_wp fun prog w A R s h => by
    obtain ⟨hp, g, d, tk, os⟩ := s
    obtain ⟨hl, h⟩ := h
    have hsub := sub_enumerate
    have hL : Heap.IsTuple (Shared.heap ⟨hp, g, d, tk, os⟩) l items := ⟨_, hl, rfl, n, rfl⟩
    wp_walk using wpAny_loadPart' hl
    refine wpAny_stack_any fun st => wpAny_pure ?_
    split
    · rename_i c _ _ _ _ _
      cases (c == Value.type "enumerate")
      · wp_walk using wpAny_loadPart' hl, wpAny_pyIter_tuple hL
        exact ⟨_, rfl, h⟩
      · wp_walk using wpAny_loadPart' hl, wpAny_pyIter_tuple hL
        exact ⟨_, rfl, h⟩
    · wp_walk using wpAny_loadPart' hl, wpAny_pyIter_tuple hL
      exact ⟨_, rfl, h⟩
theorem call_enumT {prog : Program} {w : World} {A : Around} {E : Value → Shared → Prop} {s : Shared} {l : Addr} {items : Array Value} {Q : Value → Shared → Prop} (hL : s.heap.IsTuple l items)
    (h : ∀ h', IsEnum h' (s.heap.objs.size + 1) s.heap.objs.size 0 .none → h'.IsTupleIter s.heap.objs.size l 0 → h'.objs.size = s.heap.objs.size + 2 →
      (∀ b o, s.heap.get? b = some o → h'.get? b = some o) → Q (.ref (s.heap.objs.size + 1)) { s with heap := h' }) :
    wpAny (model prog w) A (call (.type "enumerate") [.ref l]) Q E s := by
  obtain ⟨⟨c, dct, dt, sl⟩, hl, hc, n, hd⟩ := hL
  replace hc : c = .type "tuple" := hc
  replace hd : dt = .seq items n := hd
  subst hc hd
  refine callType_new F.called_enumerate (by decide) (F.typeCall_enumerate_1 _) (F.newCall_enumerate_1 _) (fun obj => F.args_object_init_2 obj _) F.entry_enumerate_new
    (enum_newT l items n dct sl) ⟨hl, ?_⟩
  have hz : (s.heap.push { cls := .type "tuple_iterator", data := .fields #[.ref l, .int 0 0] }).objs.size = s.heap.objs.size + 1 := Heap.size_push ..
  show _ ∧ _
  rw [hz]
  have he : IsEnum ((s.heap.push { cls := .type "tuple_iterator", data := .fields #[.ref l, .int 0 0] }).push
      { cls := .type "enumerate", data := .fields #[.none, .bool false, .ref s.heap.objs.size, rawInt 0, .none, .none] }) (s.heap.objs.size + 1) s.heap.objs.size 0 .none := by
    have := Heap.get?_push_size (s.heap.push { cls := .type "tuple_iterator", data := .fields #[.ref l, .int 0 0] })
      (o := { cls := .type "enumerate", data := .fields #[.none, .bool false, .ref s.heap.objs.size, rawInt 0, .none, .none] }) rfl
    rw [hz] at this
    exact this
  exact ⟨⟨_, he, rfl⟩, h _ he ⟨_, Heap.get?_push_of_some _ (Heap.get?_push_size _ rfl), rfl, rfl⟩ (by rw [Heap.size_push, hz]) fun b o x => Heap.get?_push_of_some _ (Heap.get?_push_of_some _ x)⟩
def IteT (K : PySem.W.Frag) (a : Addr) : It :=
  ⟨fun i H => ∃ (xs : List V) (x : V), SqT K H a xs ∧ xs[i]? = some x, fun i H v H' => ∃ T x, v = .ref T ∧ H T = none ∧ H' = upd H T (.tup [.int (i : Nat), x]) ∧ ∀ xs, SqT K H a xs → xs[i]? = some x, fun i H => ∃ xs : List V, SqT K H a xs ∧ xs.length = i⟩
theorem turn_enumT {P : Program} {w : World} {K : PySem.W.Frag} {elts : List Expr} {kk : Nat} {tpos : Pos} (a e it : Addr) :
    Turn P w K (.Tuple elts kk tpos) (IteT K a) [e, it] e (fun i h => (∃ old, IsEnum h e it ((i : Nat) : Int) old) ∧ h.IsTupleIter it a i ∧ e ≠ it ∧ a ≠ e ∧ a ≠ it) where
  mem := by simp
  obj := fun i h st b hb => by
    obtain ⟨⟨old, he⟩, ⟨o, ho, hc, hd⟩, _⟩ := st
    have e' : b = e ∨ b = it := by simpa using hb
    rcases e' with z | z
    · rw [z]
      exact ⟨_, he, fun v q => nomatch q⟩
    · rw [z]
      exact ⟨o, ho, fun v q => by rw [hd] at q; cases q⟩
  keep := fun i h h' st k => let ⟨⟨old, he⟩, ⟨o, ho, hr⟩, hne⟩ := st; ⟨⟨old, k e (by simp) _ he⟩, ⟨o, k it (by simp) o ho, hr⟩, hne⟩
  item := by
    intro X hP hw hK hc i pins s σ H E I hf st hg
    subst hP hw hK
    obtain ⟨⟨old, he⟩, hit, hne, hae, hai⟩ := st
    obtain ⟨xs, x, hq, hx⟩ := hg
    obtain ⟨its, rv, p, hz⟩ := I.tuple hq
    obtain ⟨u0, hu0, ru⟩ := rv.get hx
    have hel : e < s.heap.objs.size := Heap.lt_size he
    have hil : it < s.heap.objs.size := by obtain ⟨_, q, _⟩ := hit; exact Heap.lt_size q
    have D := Draws.tuple (prog := X.prog) (w := X.w) (A := X.A.in1) (show X.A.in1.handled = none from I.ok.hd hc) it a hai its.toArray
    have hin : i < its.toArray.size := by
      have := (List.getElem?_eq_some_iff.mp hu0).1
      simpa using this
    refine wpAny_pyNext_enum_itemD D he ⟨hit, p⟩ hin hne (by simp [hne, Ne.symm hae]) fun u h' tk hu ho hit' hT hsz hk => ?_
    have eu : u = u0 := by
      have h1 : its[i]? = some u := by simpa using hu
      rw [hu0] at h1
      exact (Option.some.inj h1).symm
    subst eu
    refine ⟨_, rfl, wpAny_letOwnedTupleGo_enum (s := { s with heap := h', toks := tk + 1 }) ho fun h'' he' sb => ?_⟩
    have hT2 : h''.get? s.heap.objs.size = some { cls := .type "tuple", data := .seq #[.int i tk, u] } := (sb.2 _ (Nat.ne_of_gt hel)).trans hT
    have new : ObjOk X.prog X.w (upd H s.heap.objs.size (.tup [.int (i : Nat), x])) h'' s.heap.objs.size (.tup [.int (i : Nat), x]) :=
      ⟨by show 2 ≤ sizeLine; decide, [.int i tk, u], .cons ⟨_, rfl⟩ (.cons ru .nil), ⟨_, hT2, rfl, _, rfl⟩⟩
    have I1 : Inv X pins σ (upd H s.heap.objs.size (.tup [.int (i : Nat), x])) { s with heap := h'', toks := tk + 1 } :=
      I.turnedNew (ch := [e, it]) (fun b ob hb q => (sb.2 b (fun z => hb (by simp [z]))).trans (hk b ob (fun z => hb (by simp [z])) (fun z => hb (by simp [z])) q)) hf (Nat.le_refl _) new
    refine ⟨.ref s.heap.objs.size, _, I1, rfl, ⟨_, x, rfl, I.hok.fresh (Nat.le_refl _), rfl, fun ys hy => by rw [I.tuple_inj hy hq]; exact hx⟩, ⟨⟨u, ?_⟩, ?_, hne, hae, hai⟩, fun b hb => ?_⟩
    · have e1 : ((i + 1 : Nat) : Int) = (i : Int) + 1 := by omega
      rw [e1]
      exact he'
    · obtain ⟨⟨o, ho2, hr⟩, _⟩ := hit'
      exact ⟨o, (sb.2 it (Ne.symm hne)).trans ho2, hr⟩
    · have hb' : b < s.heap.objs.size := by
        have e' : b = e ∨ b = it := by simpa using hb
        rcases e' with z | z
        · rw [z]; exact hel
        · rw [z]; exact hil
      rw [upd_ne (Nat.ne_of_lt hb')]
      exact (hf b hb).1
  done := by
    intro X hP hw hK hc i pins s σ H E I hf st hg
    subst hP hw hK
    obtain ⟨⟨old, he⟩, hit, hne, hae, hai⟩ := st
    obtain ⟨xs, hq, hx⟩ := hg
    obtain ⟨its, rv, p, hz⟩ := I.tuple hq
    obtain ⟨f0, f1, f2, f3, f4, f5⟩ := hf it (by simp)
    have hl := rv.length
    have D := Draws.tuple (prog := X.prog) (w := X.w) (A := X.A.in1) (show X.A.in1.handled = none from I.ok.hd hc) it a hai its.toArray
    have hi : i = its.toArray.size := by
      rw [List.size_toArray]
      omega
    subst hi
    exact wpAny_pyNext_enum_endD D he ⟨hit, p⟩ fun h' eb => ⟨rfl, I.turned (t' := s.toks) (fun b o hb q => eb b o hb q) f0 f1 f3 f4 f5⟩
  self := fun A i s Q E st h => let ⟨⟨_, he⟩, _⟩ := st; wpAny_pyIter_enum he h
def iEnumT (K : PySem.W.Frag) (ta : TA) : TI := fun σ H R => ta σ H fun vs H1 => ∃ a xs, vs = [.ref a] ∧ SqT K H1 a xs ∧ R (IteT K a) H1
section
variable {X : Cx} {e : Expr} {ta : TA} {p pos tpos : Pos} {elts : List Expr} {kk : Nat}
theorem pi_enumT (hg : Gl X "enumerate") (hm : X.mg "enumerate" = none) (ha : PA X [e] ta) (hs : starEach [e] X.env = [(false, eval e X.env)] := by rfl) :
    PI X (.Tuple elts kk tpos) (.Call (.Name "enumerate" p) [e] [] pos) (iEnumT X.K ta) := by
  refine ⟨fun pins s σ H R I h => ?_⟩
  refine Call_ (ld_blt I hg hm boot_enumerate (PyProof.Rows.callWith_type1 (thn (ha.run pos pins s σ H _ I h) fun us s1 ⟨vs, H1, I1, r1, q1⟩ => ?_) hs rfl))
  obtain ⟨a, xs, ex, hq, q⟩ := q1
  subst ex
  cases r1 with
  | cons r rr =>
    cases rr
    cases r
    obtain ⟨its, rv, p', hz⟩ := I1.tuple hq
    have hla : a < s1.heap.objs.size := by
      obtain ⟨o, ho, _⟩ := p'
      exact Heap.lt_size ho
    refine call_enumT p' fun h' he hit hsz hk => wpAny_pyIter_enum he ?_
    have I2 : Inv X pins σ H1 { s1 with heap := h' } := I1.kept (t' := s1.toks) hk
    refine ⟨s1.heap.objs.size + 1, [s1.heap.objs.size + 1, s1.heap.objs.size], _, _, H1, rfl, I2, turn_enumT a (s1.heap.objs.size + 1) s1.heap.objs.size, ⟨⟨.none, he⟩, hit, Nat.succ_ne_self _, Nat.ne_of_lt (Nat.lt_succ_of_lt hla), Nat.ne_of_lt hla⟩, fun b hb => ?_, q⟩
    have e' : b = s1.heap.objs.size + 1 ∨ b = s1.heap.objs.size := by simpa using hb
    have hle : s1.heap.objs.size ≤ b := by
      rcases e' with z | z
      · rw [z]; exact Nat.le_add_right _ _
      · rw [z]; exact Nat.le_refl _
    exact I1.fpOk hle (I1.hok.fresh hle)
/-- a list or a tuple -/
def iEnumQ (K : PySem.W.Frag) (ta : TA) : TI := fun σ H R => iEnum K ta σ H R ∨ iEnumT K ta σ H R
theorem pi_enumQ (hg : Gl X "enumerate") (hm : X.mg "enumerate" = none) (ha : PA X [e] ta) (hs : starEach [e] X.env = [(false, eval e X.env)] := by rfl) :
    PI X (.Tuple elts kk tpos) (.Call (.Name "enumerate" p) [e] [] pos) (iEnumQ X.K ta) := by
  refine ⟨fun pins s σ H R I h => ?_⟩
  rcases h with h | h
  · exact (pi_enum hg hm ha hs).run pins s σ H R I h
  · exact (pi_enumT hg hm ha hs).run pins s σ H R I h
def iQ (K : PySem.W.Frag) (tl : TE) : TI := fun σ H R => iList K tl σ H R ∨ iTup K tl σ H R
theorem pi_Q {tg l : Expr} {tl : TE} (hl : PE X l tl) : PI X tg l (iQ X.K tl) := by
  refine ⟨fun pins s σ H R I h => ?_⟩
  rcases h with h | h
  · exact (pi_list hl).run pins s σ H R I h
  · exact (pi_tup hl).run pins s σ H R I h
end
/-- a list or a tuple that stands in the tracked heap -/
def Sq (H : Hp) (p : Addr) (xs : List V) : Prop := H p = some (.lst xs) ∨ H p = some (.tup xs)
theorem Sq.same {H H' : Hp} {p : Addr} {xs : List V} (h : Sq H p xs) (s : Same H H') : Sq H' p xs := by
  rcases h with h | h
  · exact .inl (s _ _ h)
  · exact .inr (s _ _ h)
section
variable {X : Cx}
def rIxQ : R2 := fun x y H Q => ∃ p i xs, x = .ref p ∧ y = .int i ∧ Sq H p xs ∧ ∃ v, atI xs i = some v ∧ Q v H
theorem ix_Q : IxR X rIxQ := by
  have h1 : IxR X rIxLt := ix_L
  have h2 : IxR X rIxTt := ix_T
  intro ve se pins s σ H x y v u Q I rx ry h hs
  obtain ⟨p, i, xs, e1, e2, hq, w, hw, q⟩ := h
  rcases hq with hq | hq
  · exact h1 ve se pins s σ H x y v u Q I rx ry ⟨p, i, xs, e1, e2, hq, w, hw, q⟩ hs
  · exact h2 ve se pins s σ H x y v u Q I rx ry ⟨p, i, xs, e1, e2, hq, w, hw, q⟩ hs
def rLenQ : List V → Hp → VK → Prop := fun vs H Q => ∃ p xs, vs = [.ref p] ∧ Sq H p xs ∧ Q (.int (xs.length : Nat)) H
theorem len_Q : CallR X (.builtin "len") rLenQ := CallR.imp call_len_seq fun vs H Q ⟨p, ys, e, h, q⟩ => ⟨p, ys, e, h.elim (fun h => .inl (.inl (.inl h))) (fun h => .inr (.inl (.inl h))), q⟩
def rTupQ : List V → Hp → VK → Prop := fun vs H Q => ∃ p xs, vs = [.ref p] ∧ Sq H p xs ∧ ∀ l H', Same H H' → H' l = some (.tup xs) → Q (.ref l) H'
theorem tup_Q : CallR X (.type "tuple") rTupQ := CallR.imp call_tuple_of fun vs H Q ⟨p, ys, e, h, q⟩ => ⟨p, ys, e, h.elim (fun h => .inl ⟨.inl (.inl h), fun l nl => q l _ (same_new nl) upd_same⟩) (fun h => .inr ⟨.inl (.inl h), q p H (Same.refl H) h⟩)⟩
def rTupL : List V → Hp → VK → Prop := fun vs H Q => ∃ p xs, vs = [.ref p] ∧ H p = some (.lst xs) ∧ ∀ l, H l = none → Q (.ref l) (upd H l (.tup xs))
theorem tup_L : CallR X (.type "tuple") rTupL := CallR.imp call_tuple_of fun vs H Q ⟨p, ys, e, h, q⟩ => ⟨p, ys, e, .inl ⟨.inl (.inl h), q⟩⟩
end
/-- the loop over enumerate(a list or a tuple) -/
theorem for_enumQ {K : PySem.W.Frag} {ta : TA} {a : Addr} {xs : List V} {g : TG} {tb : TS} {D : Ends} {σ : L2.St} {H : Hp} (hta : ∀ Q : List V → Hp → Prop, Q [.ref a] H → ta σ H Q) (hq : Sq H a xs) (Pv : Nat → L2.St → Hp → Prop) (h0 : Pv 0 σ H)
    (hl : ∀ i σ H', Pv i σ H' → ∀ o, H a = some o → H' a = some o)
    (hs : ∀ i x T σ H, xs[i]? = some x → Pv i σ H → H T = none → g (.ref T) σ (upd H T (.tup [.int (i : Nat), x])) fun σ' H' => tb { D with nx := Pv (i + 1), ct := Pv (i + 1), bk := D.nx } σ' H')
    (hd : ∀ σ H, Pv xs.length σ H → D.nx σ H) : tFor (iEnumQ K ta) g tb D σ H := by
  rcases hq with hq | hq
  · refine .inl (hta _ ⟨a, xs, rfl, .inl (.inl hq), ?_⟩)
    refine ⟨fun i m σ H' => m = xs.length - i ∧ i ≤ xs.length ∧ Pv i σ H', ⟨_, rfl, Nat.zero_le _, h0⟩, ?_⟩
    rintro i m σ H' ⟨rfl, hi, p⟩
    have hk : SqL K H' a xs := .inl (.inl (hl i σ H' p _ hq))
    by_cases hlt : i < xs.length
    · refine .inr ⟨⟨xs, xs[i], hk, by simp [hlt]⟩, fun σ' H' => Pv (i + 1) σ' H', fun σ' H' q => ⟨xs.length - (i + 1), by omega, rfl, hlt, q⟩, fun x H2 hy => ?_⟩
      obtain ⟨T, c, rfl, nT, rfl, hc⟩ := hy
      exact hs i c T σ H' (hc xs hk) p nT
    · have ei : i = xs.length := by omega
      subst ei
      exact .inl ⟨⟨xs, hk, Nat.le_refl _⟩, hd σ H' p⟩
  · refine .inr (hta _ ⟨a, xs, rfl, .inl (.inl hq), ?_⟩)
    refine ⟨fun i m σ H' => m = xs.length - i ∧ i ≤ xs.length ∧ Pv i σ H', ⟨_, rfl, Nat.zero_le _, h0⟩, ?_⟩
    rintro i m σ H' ⟨rfl, hi, p⟩
    have hk : SqT K H' a xs := .inl (.inl (hl i σ H' p _ hq))
    by_cases hlt : i < xs.length
    · refine .inr ⟨⟨xs, xs[i], hk, by simp [hlt]⟩, fun σ' H' => Pv (i + 1) σ' H', fun σ' H' q => ⟨xs.length - (i + 1), by omega, rfl, hlt, q⟩, fun x H2 hy => ?_⟩
      obtain ⟨T, c, rfl, nT, rfl, hc⟩ := hy
      exact hs i c T σ H' (hc xs hk) p nT
    · have ei : i = xs.length := by omega
      subst ei
      exact .inl ⟨⟨xs, hk, rfl⟩, hd σ H' p⟩
section
variable {X : Cx}
theorem shaped_flatT {xs : List V} (hx : xs.all isF = true) : SeqAt.shaped (.tuple (xs.map datV)) = true := by
  obtain ⟨h1, h2⟩ := lay_flat hx
  simp [SeqAt.shaped, PyData.canLay0, PyData.depth, h1, h2]
def rNeL : R2 := fun x y H Q => ∃ p q xs ys, x = .ref p ∧ y = .ref q ∧ H p = some (.lst xs) ∧ H q = some (.lst ys) ∧ xs.all isF = true ∧ ys.all isF = true ∧ Q (.bl (!decide (xs = ys))) H
def rNeT : R2 := fun x y H Q => ∃ p q xs ys, x = .ref p ∧ y = .ref q ∧ H p = some (.tup xs) ∧ H q = some (.tup ys) ∧ xs.all isF = true ∧ ys.all isF = true ∧ Q (.bl (!decide (xs = ys))) H
def rEqT : R2 := fun x y H Q => ∃ p q xs ys, x = .ref p ∧ y = .ref q ∧ H p = some (.tup xs) ∧ H q = some (.tup ys) ∧ xs.all isF = true ∧ ys.all isF = true ∧ Q (.bl (decide (xs = ys))) H
theorem ne_LL (hu : X.A.units + 64 < cLine) : OpR X (compareOp .NotEq) rNeL := by
  intro pins s σ H x y v u Q I rx ry h
  obtain ⟨p, q, xs, ys, rfl, rfl, hp, hq, fx, fy, k⟩ := h
  refine op_neD hu pins s σ H _ _ v u Q I rx ry ⟨.list (xs.map datV), .list (ys.map datV), .lst (.inl (.inl hp)) (dpAll_dat fx), .lst (.inl (.inl hq)) (dpAll_dat fy), shaped_flat fx, shaped_flat fy, ?_⟩
  rw [PyData.eqv, eqvAll_dat fx fy]
  exact k
theorem ne_TT (hu : X.A.units + 64 < cLine) : OpR X (compareOp .NotEq) rNeT := by
  intro pins s σ H x y v u Q I rx ry h
  obtain ⟨p, q, xs, ys, rfl, rfl, hp, hq, fx, fy, k⟩ := h
  refine op_neD hu pins s σ H _ _ v u Q I rx ry ⟨.tuple (xs.map datV), .tuple (ys.map datV), .tup (.inl (.inl hp)) (dpAll_dat fx), .tup (.inl (.inl hq)) (dpAll_dat fy), shaped_flatT fx, shaped_flatT fy, ?_⟩
  rw [PyData.eqv, eqvAll_dat fx fy]
  exact k
theorem eq_TT (hu : X.A.units + 64 < cLine) : OpR X (compareOp .Eq) rEqT := by
  intro pins s σ H x y v u Q I rx ry h
  obtain ⟨p, q, xs, ys, rfl, rfl, hp, hq, fx, fy, k⟩ := h
  refine op_eqD hu pins s σ H _ _ v u Q I rx ry ⟨.tuple (xs.map datV), .tuple (ys.map datV), .tup (.inl (.inl hp)) (dpAll_dat fx), .tup (.inl (.inl hq)) (dpAll_dat fy), shaped_flatT fx, shaped_flatT fy, ?_⟩
  rw [PyData.eqv, eqvAll_dat fx fy]
  exact k
theorem all_int (ns : List Int) : (ns.map V.int).all isF = true := by simp [isF]
theorem map_int_inj {a b : List Int} : a.map V.int = b.map V.int ↔ a = b := by
  constructor
  · intro h
    induction a generalizing b with
    | nil => cases b with
      | nil => rfl
      | cons y b => cases h
    | cons x a ih => cases b with
      | nil => cases h
      | cons y b =>
        simp only [List.map_cons, List.cons.injEq, V.int.injEq] at h
        rw [h.1, ih h.2]
  · intro h
    rw [h]
/-- len of a list or a tuple -/
def rMin2 : List V → Hp → VK → Prop := fun xs H Q => ∃ i j, xs = [.int i, .int j] ∧ Q (.int (if j < i then j else i)) H
theorem min_2 (hc : X.calm = true) : CallR X (.builtin "min") rMin2 := call_min2 hc
def rAnd255 : R2 := fun x y H Q => ∃ i : Int, x = .int i ∧ y = .int 255 ∧ Q (.int (i % 256)) H
theorem and_255 {X : Cx} : OpR X (binaryOp .BitAnd) rAnd255 := by
  intro pins s σ H x y v u Q I rx ry h
  obtain ⟨i, rfl, rfl, q⟩ := h
  exact op_andM pins s σ H _ _ v u Q I rx ry ⟨i, 8, rfl, rfl, q⟩
def rNonIs : R2 := fun x y H Q => y = .non ∧ Q (.bl (decide (x = .non))) H
theorem op_isNon : OpR X (compareOp .Is) rNonIs := op_isN
def rNonNot : R2 := fun x y H Q => y = .non ∧ Q (.bl (!decide (x = .non))) H
theorem op_notNon : OpR X (compareOp .IsNot) rNonNot := op_notN
def rIns : V → List V → Hp → VK → Prop := fun x vs H Q => ∃ (l : Addr) (xs : List V) (i : Int) (y : V), x = .ref l ∧ vs = [.int i, y] ∧ H l = some (.lst xs) ∧ xs.length < sizeLine ∧ 0 ≤ i ∧ i < 2 ^ 63 ∧ Q .non (upd H l (.lst (xs.take i.toNat ++ [y] ++ xs.drop i.toNat)))
theorem mt_ins : MtR X "list.insert" rIns := mt_insert
open AutoSeq1 in
theorem extend_tuple (l : Addr) (items : Array Value) (n : Nat) (b : Addr) (items2 : Array Value) (n2 : Nat) (dct : Option Addr) (sl : Array (Option Value)) (hs0 : ¬(!items.isEmpty && Builtin.List.listTooLong (items.size + items2.size)) = true) (hs1 : items.size ≤ sizeLine) (hs2 : items.size + items2.size ≤ sizeLine + 1) :
    Meets (Builtin.«list.extend» ⟨[.ref l, .ref b], []⟩) (fun _ R s => s.heap.get? l = some { cls := .type "list", dict := none, data := .seq items n, slots := #[] } ∧ s.heap.get? b = some { cls := .type "tuple", dict := dct, data := .seq items2 n2, slots := sl } ∧ R (.ok (.ret Value.none)) { s with heap := s.heap.update l (Obj.mapSeq fun x => x ++ items2), toks := s.toks }) :=
  .of_wp fun prog w A R s h => by
    obtain ⟨hp, g, d, tk, os⟩ := s
    obtain ⟨hl, hb, h⟩ := h
    have f1 := idx_int
    have f2 := AutoSeq1.sub_tuple_tuple
    have f3 := AutoSeq1.sub_list_list
    have f4 := AutoSeq1.sub_tuple_list
    have f5 := AutoSeq1.sub_list_tuple
    have hz' : (items ++ items2).size ≤ sizeLine + 1 := by rw [Array.size_append]; exact hs2
    wp_walk using (wpAny_updateSeq hl rfl (hz := hs1) (_hz' := hz')), wpAny_loadPart' hl, wpAny_loadPart' hb
    exact ⟨_, rfl, h⟩
def rExtQ : V → List V → Hp → VK → Prop := fun x vs H Q => ∃ l b xs zs, x = .ref l ∧ vs = [.ref b] ∧ H l = some (.lst xs) ∧ Sq H b zs ∧ xs.length + zs.length ≤ sizeLine ∧ Q .non (upd H l (.lst (xs ++ zs)))
theorem mt_extQ : MtM X "list.extend" rExtQ := by
  intro pins s σ H x vs v us Q I rx rv h
  obtain ⟨l, b, xs, zs, rfl, rfl, hH, hB, hz, q⟩ := h
  rcases hB with hB | hB
  · exact mt_extend pins s σ H _ _ v us Q I rx rv ⟨l, b, xs, zs, rfl, rfl, hH, hB, hz, q⟩
  cases rx
  obtain ⟨u, rfl, ru⟩ := rv.one
  cases ru
  obtain ⟨z, its, n, r, hl, e⟩ := I.lstM hH
  obtain ⟨its2, r2, ⟨⟨c2, d2, dt2, sl2⟩, e2, hc2, n2, hd2⟩, hz2⟩ := I.tuple (.inl (.inl hB))
  have hl2 := r2.length
  replace hc2 : c2 = .type "tuple" := hc2
  replace hd2 : dt2 = .seq its2.toArray n2 := hd2
  subst hc2 hd2
  have hsz : its.toArray.size + its2.toArray.size ≤ sizeLine := by rw [List.size_toArray, List.size_toArray]; omega
  have hlong : ¬ (!its.toArray.isEmpty && Builtin.List.listTooLong (its.toArray.size + its2.toArray.size)) = true := by
    rw [notLongL hsz, Bool.and_false]
    exact Bool.false_ne_true
  refine call_meets F.slot_list_extend ⟨_, e, rfl⟩ F.entry_list_extend (F.args_list_extend_2 _ _)
    (extend_tuple l its.toArray n b its2.toArray n2 d2 sl2 hlong (by rw [List.size_toArray]; omega) (by omega)) ⟨e, e2, ?_⟩
  refine ⟨.non, _, I.lset (its' := its ++ its2) hH e (by simp) (r.append r2) ?_, rfl, q⟩
  rw [List.length_append]
  omega
def rSlQ : V → Option Int → Option Int → Hp → VK → Prop := fun x lo hi H Q => ∃ a xs, x = .ref a ∧ Sq H a xs ∧ ∀ p H', Same H H' → Sq H' p (cutV xs lo hi) → Q (.ref p) H'
theorem sl_Q : SlR X rSlQ := by
  intro pins s σ H x v vl vu lo hi sl Q I rx hs pl pu h
  obtain ⟨a, xs, rfl, hx, q⟩ := h
  rcases hx with hx | hx
  · exact sl_L pins s σ H _ v vl vu lo hi sl Q I rx hs pl pu ⟨a, xs, rfl, hx, fun p np => q p _ (same_new np) (.inl upd_same)⟩
  · refine sl_tupA pins s σ H _ v vl vu lo hi sl Q I rx hs pl pu ⟨a, xs, rfl, .inl (.inl hx), fun hw => ?_, fun _ p np => q p _ (same_new np) (.inr upd_same)⟩
    have e : cutV xs lo hi = xs := by
      unfold cutV
      rw [hw.1, hw.2]
      simp
    exact q a H (Same.refl H) (by rw [e]; exact .inr hx)
end
end Fx
/-! Own classes: attribute targets, methods by promise; defs that know that no repr is under way (FnG) -/
namespace Fx
open PySem PySem.Spec PyProof.Rows L2
section
variable {X : Cx} {o : Expr} {to : TE} {f : Str} {pos : Pos}
/-- .. , o.f, .. = value -/
def gFld (K : PySem.W.Frag) (to : TE) (f : Str) : TG := fun v σ H Q => to σ H fun x H1 => ∃ a C dx fs, x = .ref a ∧ H1 a = some (.ins C dx fs) ∧ Cls K C ∧ NoAttr K C f ∧ fs.length < 1000 ∧ Q σ (upd H1 a (.ins C dx (putF f v fs)))
theorem pg_fld (ho : PE X o to) : PG X (.Attribute o f pos) (gFld X.K to f) := by
  refine ⟨fun pins s σ H v u Q I r h => ?_⟩
  rw [assign_Attribute]
  refine wpAny_bind (wpAny_holding (thn (ho.run pins s σ H _ I h) fun ov s1 ⟨x, H1, I1, r1, a, C, dx, fs, ex, ea, c, n, l, q⟩ => ?_))
  subst ex
  obtain rfl : ov = Value.ref a := r1
  refine wpAny_bind (wpAny_standAt (wpAny_bind (wpAny_holding (setattr_ok I1 ea c n l r fun s3 I3 => ?_))))
  exact wpAny_release ⟨σ, _, I3, q⟩
end
/-! ### methods, makers -/
structure CalM (P : Program) (w : World) (K : PySem.W.Frag) (mg : Str → Option Value) (base : Heap) (CX : CXT) (k : Nat) (C : Addr) (m : Str) (ps : List Str) (sp : Sp) : Prop where
  ex : ∃ f fd, Meth K C m f ∧ Binds K fd ps [] ∧ FnOk P w K mg base CX k f fd ps sp
structure CalI (P : Program) (w : World) (K : PySem.W.Frag) (mg : Str → Option Value) (base : Heap) (CX : CXT) (k : Nat) (C : Addr) (ps : List Str) (sp : Sp) : Prop where
  ex : ∃ f fd, Mk K C f ∧ Binds K fd ps [] ∧ FnOk P w K mg base CX k f fd ps sp
section
variable {X : Cx} {x : Str} {C : Addr} {ps : List Str} {sp : Sp} {k : Nat} {CX : CXT} {E : XK} {e : Expr} {es : List Expr} {t : TA} {p pos : Pos}
/-- C(e, ..) -/
theorem pe_mk (M : CalI X.prog X.w X.K X.mg X.base CX k C ps sp) (hr : Room (k + 1) X.A) (hm : X.mg x = some (.ref C)) (hx : Passes CX X E) (ha : PA X (e :: es) t) (hg : Gl X x := by rfl) (hdb : (x == ("__debug__" : Str)) = false := by decide)
    (hs : (e :: es).all nostar = true := by rfl) : PE X (.Call (.Name x p) (e :: es) [] pos) (tMake C sp [] E t) := by
  obtain ⟨f, fd, m, b, F⟩ := M.ex
  simp only [List.all_cons, Bool.and_eq_true] at hs
  exact pe_make m F hr hg hm b .nil hx ha hdb (star_ok hs.1) (back_ok hs.2)
end
/-! ### a method's body -/
abbrev BindQ (x q : Str) (st : Stmt) (ps : List Str) : Prop := ∀ (kV doc pm : Value) (an : Option Addr) (cdv ct : Value) (us : List Value), us.length = ps.length → bindArgs (PySem.W.fnOf x q (defArgs st) (defBody st) (defScope st) .none kV doc pm an cdv ct) ⟨us, []⟩ = pure (ps.zip us)
section
variable {P : Program} {w : World} {K : PySem.W.Frag} {mg : Str → Option Value} {base : Heap} {x qual : Str} {st : Stmt} {N ps : List Str} {k : Nat} {sp : Sp} {f : Addr} {fd : FuncData}
theorem ok0 (F : FunD K x qual (defArgs st) (defBody st) (defScope st) [] [] f fd) (sc : FnScope N ps (defScope st)) (len : ∀ vs H Q E, sp vs H Q E → vs.length = ps.length)
    (hbody : ∀ (f : Addr) (cdv : Value) (A : Around) (outer : List Env) (s : Shared) (H : Hp) (vs : List V) (Q : VK) (E : XK), Room k (A.deeper (envOfC qual (defScope st) s.heap.objs.size f cdv)) → sp vs H Q E →
      ∃ t, PSs (cxOf CX0 P w K mg base N qual (defScope st) f cdv A outer s H E).nox (defBody st) t ∧ t { nx := fun _ H' => Q .non H', rt := Q } (L2.start N vs) H) : FnOk P w K mg base CX0 (k + 1) f fd ps sp := by
  refine F.ok sc len fun cdv A outer s H vs Q E hr hsp => ?_
  obtain ⟨t, h, q⟩ := hbody f cdv A outer s H vs Q E hr hsp
  exact ⟨t, h.nox, q⟩
theorem okX (F : FunD K x qual (defArgs st) (defBody st) (defScope st) [] [] f fd) (sc : FnScope N ps (defScope st)) (len : ∀ vs H Q E, sp vs H Q E → vs.length = ps.length)
    (hbody : ∀ (f : Addr) (cdv : Value) (A : Around) (outer : List Env) (s : Shared) (H : Hp) (vs : List V) (Q : VK) (E : XK), Room k (A.deeper (envOfC qual (defScope st) s.heap.objs.size f cdv)) → sp vs H Q E →
      ∃ t, PSs (cxOf (L2.CX P w) P w K mg base N qual (defScope st) f cdv A outer s H E) (defBody st) t ∧ t { nx := fun _ H' => Q .non H', rt := Q } (L2.start N vs) H) : FnOk P w K mg base (L2.CX P w) (k + 1) f fd ps sp :=
  F.ok sc len fun cdv A outer s H vs Q E hr hsp => hbody f cdv A outer s H vs Q E hr hsp
end
/-! ### no repr is under way: guards = some [] -/
structure FnG (P : Program) (w : World) (K : PySem.W.Frag) (mg : Str → Option Value) (base : Heap) (CX : CXT) (k : Nat) (f : Addr) (fd : FuncData) (ps : List Str) (sp : Sp) : Prop where
  len : ∀ vs H Q E, sp vs H Q E → vs.length = ps.length
  run : ∀ (A : Around) (outer : List Env) (s : Shared) (H : Hp) (args : Args) (us : List Value) (vs : List V) (Q : VK) (E : XK), A.guards = some [] → Room k A → Env0 P w K mg base A outer s H → BindsTo s fd args (ps.zip us) → Vals vs us → sp vs H Q E →
    codeAny (model P w) A (.call (.ref f) args) (CR CX outer P w H s Q E) s
section
variable {P : Program} {w : World} {K : PySem.W.Frag} {mg : Str → Option Value} {base : Heap} {CX : CXT} {k : Nat} {f : Addr} {fd : FuncData} {N ps : List Str} {sp : Sp}
theorem FnG.of (F : FnOk P w K mg base CX k f fd ps sp) : FnG P w K mg base CX k f fd ps sp := ⟨F.len, fun A outer s H args us vs Q E _ hr e0 hb hv hs => F.run A outer s H args us vs Q E hr e0 hb hv hs⟩
/-- a def whose body may use that no repr is under way -/
theorem fn_ofG {name qual : Str} {params : Arguments} {body : List Stmt} {scope : Scope} {dV kV doc pm cdv ct oc : Value} {an od : Option Addr} {osl : Array (Option Value)}
    (lk : K.lookup f = some ⟨oc, od, .func (PySem.W.fnOf name qual params body scope dV kV doc pm an cdv ct), osl⟩) (hcd : PySem.W.codeIn K cdv qual = true) (S : FnScope N ps scope) (len : ∀ vs H Q E, sp vs H Q E → vs.length = ps.length)
    (hbody : ∀ (A : Around) (outer : List Env) (s : Shared) (H : Hp) (vs : List V) (Q : VK) (E : XK), A.guards = some [] → Room k (A.deeper (envOfC qual scope s.heap.objs.size f cdv)) → sp vs H Q E →
      ∃ t, PSs (cxOf CX P w K mg base N qual scope f cdv A outer s H E) body t ∧ t { nx := fun _ H' => Q .non H', rt := Q } (L2.start N vs) H) :
    FnG P w K mg base CX (k + 1) f (PySem.W.fnOf name qual params body scope dV kV doc pm an cdv ct) ps sp := by
  constructor
  · exact len
  intro A outer s H args us vs Q E hG hr e0 hb r hsp
  have hl := len _ _ _ _ hsp
  have kin : K.In s.heap := e0.mod.kin.keeps fun b o e => (e0.bs b o e).1
  have nol : s.heap.NoLimit := e0.mod.nolimit.keeps fun b o e => (e0.bs b o e).1
  have kinds : ∀ y ∈ ps.zip us, scope.names.lookup y.1 = some .local ∨ (scope.names.lookup y.1 = some .cell ∧ ((cellsFrom (s.heap.objs.size + 1) scope.names []).lookup y.1).isSome = true) := by
    rintro ⟨n, v⟩ hy
    rcases S.par n (List.of_mem_zip hy).1 with q | q
    · left; exact q
    · right; exact ⟨q, PySem.W.cellsFrom_some _ _ _ (.inl q)⟩
  refine codeAny_call_function hr.depth (kin _ _ lk) rfl S.co S.gen rfl (PySem.W.codeRec_of kin hcd) (hb _ _ _ _ (wpAny_newFunctionEnv_cells S.kind kinds fun env he s1 x => ?_))
  subst he
  refine ⟨nol.keeps x.toInCall.keep, codeAny_func ?_⟩
  obtain ⟨t, ht, hq⟩ := hbody A outer s H vs Q E hG (hr.deeper _) hsp
  refine wpAny_mono (ht.run [] s1 (L2.start N vs) H _ (inv_start S hr.hd e0 hl r x) hq) (fun fl s' hs => ?_) fun e s' hs => hs
  have done : ∀ {σ' : L2.St} {H' : Hp} {v : V} {u : Value}, Inv (cxOf CX P w K mg base N qual scope f cdv A outer s H E) [] σ' H' s' → RelV v u → Q v H' → CE outer P w H s Q u s' := by
    intro σ' H' v u J rv q
    exact ⟨v, H', J.os, J.bare, J.base, J.hok, rv, q⟩
  cases fl with
  | ret u => obtain ⟨v, σ', H', J, rv, q⟩ := hs; exact done J rv q
  | next => obtain ⟨σ', H', J, q⟩ := hs; exact done (v := V.non) (u := Value.none) J rfl q
  | brk => obtain ⟨_, _, _, q⟩ := hs; exact q.elim
  | cont => obtain ⟨_, _, _, q⟩ := hs; exact q.elim
end
structure CalG (P : Program) (w : World) (K : PySem.W.Frag) (mg : Str → Option Value) (base : Heap) (CX : CXT) (k : Nat) (x : Str) (ps : List Str) (sp : Sp) : Prop where
  ex : ∃ f fd, mg x = some (.ref f) ∧ PySem.W.keepIn K (.ref f) = true ∧ Binds K fd ps [] ∧ FnG P w K mg base CX k f fd ps sp
section
variable {P : Program} {w : World} {K : PySem.W.Frag} {mg : Str → Option Value} {base : Heap} {x : Str} {st : Stmt} {N ps : List Str} {k : Nat} {sp : Sp} {f : Addr} {fd : FuncData}
theorem lawG (F : FunD K x x (defArgs st) (defBody st) (defScope st) [] [] f fd) (sc : FnScope N ps (defScope st)) (len : ∀ vs H Q E, sp vs H Q E → vs.length = ps.length)
    (hbody : ∀ (f : Addr) (cdv : Value) (A : Around) (outer : List Env) (s : Shared) (H : Hp) (vs : List V) (Q : VK) (E : XK), A.guards = some [] → Room k (A.deeper (envOfC x (defScope st) s.heap.objs.size f cdv)) → sp vs H Q E →
      ∃ t, PSs (cxOf CX0 P w K mg base N x (defScope st) f cdv A outer s H E).nox (defBody st) t ∧ t { nx := fun _ H' => Q .non H', rt := Q } (L2.start N vs) H) : FnG P w K mg base CX0 (k + 1) f fd ps sp := by
  obtain ⟨oc, od, dV, kV, doc, pm, an, cdv, ct, osl, rfl, lk, hcd, _, _⟩ := F.ex
  refine fn_ofG lk hcd sc len fun A outer s H vs Q E hG hr hsp => ?_
  obtain ⟨t, h, q⟩ := hbody f cdv A outer s H vs Q E hG hr hsp
  exact ⟨t, h.nox, q⟩
theorem Src.calG (S : Src K mg x st) (sc : FnScope N ps (defScope st)) (bn : BindP x st ps) (len : ∀ vs H Q E, sp vs H Q E → vs.length = ps.length)
    (hbody : ∀ (f : Addr) (cdv : Value) (A : Around) (outer : List Env) (s : Shared) (H : Hp) (vs : List V) (Q : VK) (E : XK), A.guards = some [] → Room k (A.deeper (envOfC x (defScope st) s.heap.objs.size f cdv)) → sp vs H Q E →
      ∃ t, PSs (cxOf CX0 P w K mg base N x (defScope st) f cdv A outer s H E).nox (defBody st) t ∧ t { nx := fun _ H' => Q .non H', rt := Q } (L2.start N vs) H) : CalG P w K mg base CX0 (k + 1) x ps sp := by
  obtain ⟨f, fd, g, F⟩ := S
  exact ⟨f, fd, g, F.kp, F.bindsN bn, lawG F sc len hbody⟩
end
section
variable {X : Cx} {x : Str} {ps : List Str} {sp : Sp} {k : Nat} {CX : CXT} {E : XK} {e : Expr} {es : List Expr} {t : TA} {p pos : Pos}
/-- f(e, ..) where no repr is under way -/
theorem pe_calG (C : CalG X.prog X.w X.K X.mg X.base CX k x ps sp) (hG : X.A.guards = some []) (hr : Room k X.A) (hx : Passes CX X E) (ha : PA X (e :: es) t) (hg : Gl X x := by rfl) (hdb : (x == ("__debug__" : Str)) = false := by decide)
    (hs : (e :: es).all nostar = true := by rfl) : PE X (.Call (.Name x p) (e :: es) [] pos) (tCall sp [] E t) := by
  obtain ⟨f, fd, g, kp, b, F⟩ := C.ex
  simp only [List.all_cons, Bool.and_eq_true] at hs
  refine ⟨fun pins s σ H Q I h => wpAny_Call_Name_kw (ld_glob I hg g ?_ hdb)⟩
  refine PySem.W.callWith_K (h₀ := X.base) I.ok.mod.kin kp (thn (ha.run pos pins s σ H _ I h) fun us s1 ⟨vs, H1, I1, r, q⟩ => ⟨I1.kIn, ?_⟩) (star_ok hs.1) (back_ok hs.2)
  have q2 : sp vs H1 Q E := by
    have q' : sp (vs ++ []) H1 Q E := q
    rw [List.append_nil] at q'
    exact q'
  have hl : us.length = ps.length := by rw [← r.length]; exact F.len _ _ _ _ q2
  have hb : BindsTo s1 fd ⟨us, []⟩ (ps.zip us) := by
    have := b s1 us I1.kIn (by rw [List.append_nil]; exact hl)
    rw [List.append_nil] at this
    exact this
  refine wpAny_call (codeAny_mono (F.run X.A X.stack s1 H1 ⟨us, []⟩ us vs Q E hG hr I1.env0 hb r q2) fun r s' hq => ?_)
  cases r with
  | error e => exact hx pins σ H1 s1 e s' I1 hq
  | ok fl => cases fl with
    | ret u => exact I1.after hq
    | next => exact hq.elim
    | brk => exact hq.elim
    | cont => exact hq.elim
end
/-! ### repr of data -/
def rRepr (K : PySem.W.Frag) : List V → Hp → VK → Prop := fun xs H Q => ∃ (x : V) (d : PyData), xs = [x] ∧ Dp K H x d ∧ d.showable = true ∧ d.hasDict = false ∧ d.depth ≤ 50 ∧ d.shown.length ≤ sizeLine ∧ Q (.str d.shown) H
theorem call_reprD {X : Cx} (hG : X.A.guards = some []) (hu : X.A.units + 64 < cLine) : CallR X (.builtin "repr") (rRepr X.K) := by
  intro pins s σ H xs us Q I rx h
  obtain ⟨x, d, rfl, hd, sh, nd, dp, hz, q⟩ := h
  obtain ⟨u, rfl, ru⟩ := rx.one
  obtain ⟨as, rd⟩ := Dp.reads I d x u hd ru
  have fin : ∀ h' tk0 tk, (∀ b o, s.heap.get? b = some o → h'.get? b = some o) → EP X pins σ Q (.str d.shown tk0) { s with heap := h', toks := tk } := fun h' tk0 tk hk => ⟨.str d.shown, H, I.kept hk, ⟨_, rfl⟩, q⟩
  have tok : ∀ tk0 tk, EP X pins σ Q (.str d.shown tk0) { s with toks := tk } := fun tk0 tk => ⟨.str d.shown, H, I.tok _, ⟨_, rfl⟩, q⟩
  cases hd with
  | non => cases ru; exact P.repr_of_none (tok _ _)
  | bl b => cases ru; exact P.repr_of_bool (by cases b <;> exact tok _ _)
  | int i =>
    obtain ⟨t, rfl⟩ := ru
    exact P.repr_of_int (by simpa [PyData.showable] using sh) (tok _ _)
  | str z =>
    obtain ⟨t, rfl⟩ := ru
    exact P.repr_of_str (tok _ _) hz
  | lst h1 h2 =>
    cases ru
    exact repr_of_reads' rd sh (fun z => by rw [nd] at z; cases z) hG (by omega) (fun b o e => e) (fun h' u tk hk => fin h' u tk hk) hz
  | tup h1 h2 =>
    cases ru
    exact repr_of_reads' rd sh (fun z => by rw [nd] at z; cases z) hG (by omega) (fun b o e => e) (fun h' u tk hk => fin h' u tk hk) hz
theorem call_reprK {X : Cx} {K : PySem.W.Frag} (hK : X.K = K) (hG : X.A.guards = some []) (hu : X.A.units + 64 < cLine) : CallR X (.builtin "repr") (rRepr K) := by
  subst hK
  exact call_reprD hG hu
end Fx
/-! A law's end where the law's def knows that no repr is under way -/
namespace Fx
open PySem PySem.Spec PyProof.Rows L2
section
variable {P : Program} {w : World} {K : PySem.W.Frag} {mg mb : Str → Option Value} {CX : CXT} {k : Nat} {fa a : Addr} {fd : FuncData} {x : Str} {sp : Sp} {z : Shared} {vs : List Value} {ns : List Int}
/-- the law's call from a heap that tracks the script at most -/
theorem endG_from {H : Hp} (KX : K.In z.heap) (hns : z.heap.Ns mainGlobals mg) (hb : z.heap.Ns builtinsNs mb) (hbb : ∀ x : Str, x ≠ "__name__" → mb x = bootBuiltins x) (hlim : z.heap.NoLimit) (hg : z.gens = #[])
    (ha : z.heap.get? a = some { cls := .type "list", data := .seq vs.toArray }) (hr : Room k callerA) (F : ∀ base : Heap, K.In base → base.Ns mainGlobals mg → FnG P w K mg base CX k fa fd [x] sp)
    (hbind : ∀ (s : Shared) (u : Value), BindsTo s fd ⟨[u], []⟩ [(x, u)]) (hCX : ∀ H e s', CX [] H z (fun _ _ _ => False) e s' → False) (hO : Only H) (hp : sp [.ref a] H (fun v _ => v = .bl true) fun _ _ _ => False)
    (hok : HOk P w H z.heap) (only : ∀ b, H b ≠ none → b = a) (hK : H a ≠ none → K.lookup a = none) :
    codeAny (model P w) callerA (.call (.ref fa) ⟨[.ref a], []⟩) (fun r s' => r = .ok (.ret (.bool true)) ∧ OldK z.heap s'.heap ∧ s'.os = z.os ∧ AllBare s'.gens) z := by
  -- what is not the script is not tracked
  have free : ∀ {b : Addr}, b ≠ a → H b = none := by
    intro b hn
    cases q : H b with
    | none => rfl
    | some u => exact absurd (only b (by rw [q]; intro y; cases y)) hn
  have keepNs : ∀ {b : Addr} {m : Str → Option Value}, z.heap.Ns b m → (hidT z.heap H).Ns b m := by
    rintro b m ⟨o, es, ep, e, d, r⟩
    refine ⟨o, es, ep, hidT_get e (free ?_), d, r⟩
    intro q
    rw [q, ha] at e
    cases e
    cases (show Data.seq vs.toArray _ = Data.dict es ep from d)
  have keepK : K.In (hidT z.heap H) := by
    intro b o e
    refine hidT_get (KX b o e) ?_
    cases q : H b with
    | none => rfl
    | some u =>
      have eb := only b (by rw [q]; intro y; cases y)
      rw [eb] at e q
      rw [hK (by rw [q]; intro y; cases y)] at e
      cases e
  obtain ⟨mc, l1, l2⟩ := hlim
  have hM : Mod K mg (hidT z.heap H) := ⟨keepK, keepNs hns, ⟨mb, keepNs hb, hbb⟩, ⟨mc, keepNs l1, l2⟩⟩
  have none_ : ∀ b : Addr, b ∉ ([] : List Addr) := fun b h => by cases h
  have e0 : Env0 P w K mg (hidT z.heap H) callerA [] z H := ⟨rfl, hM, fun b o e => of_hidT e, Nat.le_of_eq (hidT_size _ _), trivial, fun b q => absurd (show b ∈ ([] : List Addr) from q) (none_ b), hok, .of_eq hg⟩
  have run := (F _ keepK (keepNs hns)).run callerA [] z H ⟨[.ref a], []⟩ [.ref a] [.ref a] _ _ rfl hr e0 (hbind z (.ref a)) (.cons rfl .nil) hp
  refine codeAny_mono run fun r s' h => ?_
  match r, h with
  | .error e, h => exact (hCX H e s' h).elim
  | .ok .next, h => exact h.elim
  | .ok .brk, h => exact h.elim
  | .ok .cont, h => exact h.elim
  | .ok (.ret u), h =>
    obtain ⟨v, H', os, bare, un, hok', ru, qv⟩ := h
    have ev : v = .bl true := qv
    rw [ev] at ru
    obtain rfl : u = Value.bool true := ru
    refine ⟨rfl, OldK.of_keep fun b o e => ?_, os, bare⟩
    rcases hO b with f | ⟨ob, xs, f⟩
    · exact un.keep b o e f (by intro y; exact absurd (show b ∈ ([] : List Addr) from y) (none_ b)) (by simp)
    · have e1 := (hok b _ f).1
      have e2 := (hok' b _ (un.frzs b ob _ f)).1
      rw [e] at e1
      cases e1
      exact e2
end
theorem walk_ofG {l : PySem.W.OpenLaw} {n k : Nat} {q : Program} {loose : List Str} {XP : (Str → Option Value) → Heap → Prop} {YP : World → Heap → Prop} {d : DefRec} {x : Str}
    (hn : l.most = some n) (hn2 : n ≤ sizeLine) (hdf : d.params.defaults = []) (hr : Room k callerA)
    (F : ∀ (w : World) (mg : Str → Option Value) (fa : Addr) (h : Heap), YP w h → h.Ns mainGlobals mg → mg d.name = some (.ref fa) →
      ∃ (K : PySem.W.Frag) (fd : FuncData) (sp : Sp), K.In h ∧ (∀ (s : Shared) (u : Value), BindsTo s fd ⟨[u], []⟩ [(x, u)]) ∧
        (∀ (H : Hp) (a : Addr) (ns : List Int), ns.length ≤ n → SqL K H a (ns.map V.int) → sp [.ref a] H (fun v _ => v = .bl true) fun _ _ _ => False) ∧
        ∀ base : Heap, K.In base → base.Ns mainGlobals mg → FnG l.prog w K mg base CX0 k fa fd [x] sp) :
    PySem.W.WalkO q loose XP YP l.row.toRowW d [] (fun f vs => PySem.call f vs) := by
  refine Att.attach_call hn hdf fun w s₀ z mg mb fa o pm cd doc a vs ns G Y ho hd hcd hmg hobj hints hlen hg => ?_
  obtain ⟨K, fd, sp, KX, hb, hsp, hF⟩ := F w mg fa _ Y G.T.g hmg
  have rv := vals_ints hints
  have lv := hints.length
  have hl : ns.length ≤ sizeLine := Nat.le_trans hlen hn2
  have go : ∀ H : Hp, Only H → SqL K H a (ns.map V.int) → HOk l.prog w H z.heap → (∀ b, H b ≠ none → b = a) → (H a ≠ none → K.lookup a = none) → _ := fun H hO hS hok only hK =>
    endG_from KX G.T.g G.T.b G.T.builtins G.T.nolimit hg hobj hr hF hb (fun _ _ _ y => y) hO (hsp H a ns hlen hS) hok only hK
  cases hk : K.lookup a with
  | some o =>
    have e := KX a o hk
    rw [hobj] at e
    cases e
    have hS : SqL K (fun _ => none) a (ns.map V.int) := .inr ⟨_, vs.toArray, _, hk, rfl, rfl, rfl, (by rw [List.size_toArray, lv]; exact hl), by simpa using rv⟩
    exact go (fun _ => none) (fun _ => .inl rfl) hS (fun b u y => by cases (show (none : Option HO) = some u from y)) (fun b y => absurd rfl y) (fun y => absurd rfl y)
  | none =>
    let o0 : Obj := { cls := .type "list", data := .seq vs.toArray }
    let H0 : Hp := fun b => if b = a then some (.frz o0 (.lst (ns.map V.int))) else none
    have at_ : H0 a = some (.frz o0 (.lst (ns.map V.int))) := if_pos rfl
    have off : ∀ {b : Addr}, b ≠ a → H0 b = none := fun h => if_neg h
    refine go H0 (fun b => ?_) (.inl (.inr ⟨o0, at_⟩)) (fun b u y => ?_) (fun b y => ?_) fun _ => hk
    · by_cases e : b = a
      · rw [e]
        exact .inr ⟨_, _, at_⟩
      · exact .inl (off e)
    · by_cases e : b = a
      · rw [e, at_] at y
        cases y
        rw [e]
        exact ⟨hobj, by rw [List.length_map]; exact hl, vs, _, rv, hobj⟩
      · rw [off e] at y
        cases y
    · by_cases e : b = a
      · exact e
      · exact absurd (off e) y
end Fx
/-! text.ljust(n, sign), sign.join(a tracked list), is True, a module's tuple of tuples -/
namespace Fx
open PySem PySem.Spec PyProof.Rows L2
section
variable {X : Cx}
def rLj : V → List V → Hp → VK → Prop := fun x xs H Q => ∃ (a f : Str) (i : Int), x = .str a ∧ xs = [.int i, .str f] ∧ PadOk i = true ∧ f.length = 1 ∧ Q (.str (Txt.ljustF a i (f.cps.getD 0 0))) H
theorem mt_lj : MtR X "str.ljust" rLj := by
  intro pins s σ H x xs v us Q I rx rs h
  obtain ⟨a, f, i, rfl, rfl, hp, hf, q⟩ := h
  obtain ⟨t, rfl⟩ := rx
  obtain ⟨u1, u2, rfl, r1, r2⟩ := rs.two
  obtain ⟨t1, rfl⟩ := r1
  obtain ⟨t2, rfl⟩ := r2
  exact ljust_fill hp hf fun t' k => ⟨.str _, H, I.tok _, ⟨_, rfl⟩, q⟩
def rJn : V → List V → Hp → VK → Prop := fun x xs H Q => ∃ (a : Str) (p : Addr) (ys : List Str), x = .str a ∧ xs = [.ref p] ∧ H p = some (.lst (ys.map V.str)) ∧ (ys.map (·.length)).sum + ys.length * a.length ≤ 16777216 ∧ Q (.str (Txt.join a ys)) H
theorem mt_jn : MtR X "str.join" rJn := by
  intro pins s σ H x xs v us Q I rx rs h
  obtain ⟨a, p, ys, e1, e2, hp, hz, q⟩ := h
  exact mt_join pins s σ H x xs v us Q I rx rs ⟨a, p, ys, e1, e2, .inl (.inl (.inl hp)), hz, q⟩
def rIsBl : R2 := fun x y H Q => ∃ a b, x = .bl a ∧ y = .bl b ∧ Q (.bl (decide (a = b))) H
theorem op_isBo : OpR X (compareOp .Is) rIsBl := op_is_bl
def rNoBl : R2 := fun x y H Q => ∃ a b, x = .bl a ∧ y = .bl b ∧ Q (.bl (!decide (a = b))) H
theorem op_noBo : OpR X (compareOp .IsNot) rNoBl := op_isnot_bl
end
/-! ### a module's tuple of tuples of numbers -/
def tupI (K : PySem.W.Frag) (v : Value) (r : List Int) : Bool := match v with
  | .ref a => (match K.lookup a with
    | some ⟨.type c, _, .seq its _, _⟩ => decide (c = "tuple") && (decide (its.size ≤ sizeLine) && He.relAll (r.map V.int) its.toList)
    | _ => false)
  | _ => false
def tupIs (K : PySem.W.Frag) : List Value → List (List Int) → Bool
  | [], [] => true
  | v :: vs, r :: rs => tupI K v r && tupIs K vs rs
  | _, _ => false
def tupsB (K : PySem.W.Frag) (x : Str) (rows : List (List Int)) : Bool := match K.lookup (He.ga K x) with
  | some ⟨.type c, _, .seq its _, _⟩ => decide (c = "tuple") && (decide (its.size ≤ sizeLine) && tupIs K its.toList rows)
  | _ => false
theorem tupI_ok {K : PySem.W.Frag} {v : Value} {r : List Int} (h : tupI K v r = true) : ∃ a, v = .ref a ∧ ∀ H, SqT K H a (r.map V.int) := by
  cases v with
  | ref a =>
    refine ⟨a, rfl, fun H => ?_⟩
    unfold tupI at h
    dsimp only at h
    cases q : K.lookup a with
    | none => rw [q] at h; cases h
    | some o =>
      obtain ⟨oc, od, dt, osl⟩ := o
      rw [q] at h
      cases oc with
      | type c =>
        cases dt with
        | seq its n =>
          obtain ⟨h1, h2⟩ := He.ba (show (decide (c = "tuple") && (decide (its.size ≤ sizeLine) && He.relAll (r.map V.int) its.toList)) = true from h)
          obtain ⟨h3, h4⟩ := He.ba h2
          exact .inr ⟨_, its, n, q, congrArg Value.type (of_decide_eq_true h1), rfl, of_decide_eq_true h3, He.relAll_ok h4⟩
        | _ => cases h
      | _ => cases dt <;> cases h
  | _ => cases h
theorem tupIs_ok {K : PySem.W.Frag} : ∀ {vs : List Value} {rs : List (List Int)}, tupIs K vs rs = true → ∃ as : List Addr, Vals (as.map V.ref) vs ∧ ∀ (i : Nat) (r : List Int), rs[i]? = some r → ∃ a, as[i]? = some a ∧ ∀ H, SqT K H a (r.map V.int)
  | [], [], _ => ⟨[], .nil, fun i r h => by simp at h⟩
  | v :: vs, r :: rs, h => by
    obtain ⟨h1, h2⟩ := He.ba (show (tupI K v r && tupIs K vs rs) = true from h)
    obtain ⟨a, rfl, ha⟩ := tupI_ok h1
    obtain ⟨as, hv, hr⟩ := tupIs_ok h2
    refine ⟨a :: as, .cons rfl hv, fun i r' hi => ?_⟩
    cases i with
    | zero =>
      have e : r = r' := by simpa using hi
      exact ⟨a, rfl, e ▸ ha⟩
    | succ i =>
      obtain ⟨b, hb, hs⟩ := hr i r' (by simpa using hi)
      exact ⟨b, by simpa using hb, hs⟩
  | [], _ :: _, h => by cases h
  | _ :: _, [], h => by cases h
theorem tupsB_ok {K : PySem.W.Frag} {x : Str} {rows : List (List Int)} (h : tupsB K x rows = true) : ∃ as : List Addr, (∀ H, SqT K H (He.ga K x) (as.map V.ref)) ∧ ∀ (i : Nat) (r : List Int), rows[i]? = some r → ∃ a, as[i]? = some a ∧ ∀ H, SqT K H a (r.map V.int) := by
  unfold tupsB at h
  cases q : K.lookup (He.ga K x) with
  | none => rw [q] at h; cases h
  | some o =>
    obtain ⟨oc, od, dt, osl⟩ := o
    rw [q] at h
    cases oc with
    | type c =>
      cases dt with
      | seq its n =>
        obtain ⟨h1, h2⟩ := He.ba (show (decide (c = "tuple") && (decide (its.size ≤ sizeLine) && tupIs K its.toList rows)) = true from h)
        obtain ⟨h3, h4⟩ := He.ba h2
        obtain ⟨as, hv, hr⟩ := tupIs_ok h4
        exact ⟨as, fun H => .inr ⟨_, its, n, q, congrArg Value.type (of_decide_eq_true h1), rfl, of_decide_eq_true h3, hv⟩, hr⟩
      | _ => cases h
    | _ => cases dt <;> cases h
/-! ### loops over a text's signs -/
theorem for_S {z : Str} {g : TG} {tb : TS} {D : Ends} {σ : L2.St} {H : Hp} (Pv : Nat → L2.St → Hp → Prop) (h0 : Pv 0 σ H)
    (hs : ∀ i c σ H, z.cps.toList[i]? = some c → Pv i σ H → g (.str ⟨#[c]⟩) σ H fun σ2 H2 => tb { D with nx := Pv (i + 1), ct := Pv (i + 1), bk := D.nx } σ2 H2) (hd : ∀ σ H, Pv z.cps.toList.length σ H → D.nx σ H) :
    ∃ W : Nat → Nat → L2.St → Hp → Prop, (∃ m, W 0 m σ H) ∧ ∀ i m σ H, W i m σ H →
      ((Its z).stop i H ∧ D.nx σ H) ∨ ((Its z).go i H ∧ ∃ N : L2.St → Hp → Prop, (∀ σ' H', N σ' H' → ∃ m', m' < m ∧ W (i + 1) m' σ' H') ∧ ∀ x H', (Its z).yld i H x H' → g x σ H' fun σ2 H2 => tb { D with nx := N, ct := N, bk := D.nx } σ2 H2) := by
  refine ⟨fun i m σ H => m = z.cps.size - i ∧ i ≤ z.cps.size ∧ Pv i σ H, ⟨_, rfl, Nat.zero_le _, h0⟩, ?_⟩
  rintro i m σ H ⟨rfl, hi, p⟩
  by_cases hlt : i < z.cps.size
  · refine .inr ⟨hlt, fun σ' H' => Pv (i + 1) σ' H', fun σ' H' q => ⟨z.cps.size - (i + 1), by omega, rfl, hlt, q⟩, fun x H' hy => ?_⟩
    obtain ⟨rfl, c, hc, rfl⟩ := hy
    exact hs i c σ H' (by rw [Array.getElem?_toList]; exact hc) p
  · have ei : i = z.cps.size := by omega
    subst ei
    exact .inl ⟨Nat.le_refl _, hd σ H (by rw [Array.length_toList]; exact p)⟩
theorem lc_S {z : Str} {g : TG} {tt : TT} {te : TE} {vs : List Nat} {σ : L2.St} {H1 : Hp} {D : Addr} {Qd : Hp → Prop} (Pv : Nat → Hp → Prop) (h0 : Pv 0 (upd H1 D (.lst [])))
    (hs : ∀ i c H, z.cps.toList[i]? = some c → Pv i H → g (.str ⟨#[c]⟩) (wipe σ vs) H fun σ2 H2 => wipe σ2 vs = wipe σ vs ∧ tt σ2 H2 fun b H3 =>
      if b = true then te σ2 H3 fun y H4 => ∃ acc, H4 D = some (.lst acc) ∧ acc.length < sizeLine ∧ Pv (i + 1) (upd H4 D (.lst (acc ++ [y]))) else Pv (i + 1) H3) (hd : ∀ H, Pv z.cps.toList.length H → Qd H) :
    ∃ W : Nat → Nat → Hp → Prop, (∃ m, W 0 m (upd H1 D (.lst []))) ∧ ∀ i m H, W i m H →
      ((Its z).stop i H ∧ Qd H) ∨ ((Its z).go i H ∧ ∃ Nx : Hp → Prop, (∀ H', Nx H' → ∃ m', m' < m ∧ W (i + 1) m' H') ∧ ∀ x H', (Its z).yld i H x H' → g x (wipe σ vs) H' fun σ2 H2 => wipe σ2 vs = wipe σ vs ∧ tt σ2 H2 fun b H3 =>
        if b = true then te σ2 H3 fun y H4 => ∃ acc, H4 D = some (.lst acc) ∧ acc.length < sizeLine ∧ Nx (upd H4 D (.lst (acc ++ [y]))) else Nx H3) := by
  refine ⟨fun i m H => m = z.cps.size - i ∧ i ≤ z.cps.size ∧ Pv i H, ⟨_, rfl, Nat.zero_le _, h0⟩, ?_⟩
  rintro i m H ⟨rfl, hi, p⟩
  by_cases hlt : i < z.cps.size
  · refine .inr ⟨hlt, fun H' => Pv (i + 1) H', fun H' q => ⟨z.cps.size - (i + 1), by omega, rfl, hlt, q⟩, fun x H' hy => ?_⟩
    obtain ⟨rfl, c, hc, rfl⟩ := hy
    exact hs i c H' (by rw [Array.getElem?_toList]; exact hc) p
  · have ei : i = z.cps.size := by omega
    subst ei
    exact .inl ⟨Nat.le_refl _, hd H (by rw [Array.length_toList]; exact p)⟩
theorem mem_sign {c : Nat} {z : Str} {p : Prop} (h : (c ∈ z.cps.toList) = p) : (c ∈ z.cps.toList) = p := h
/-- ''.join -/
theorem join0_list : ∀ ys : List Str, (Txt.join "" ys).cps.toList = (ys.map fun y => y.cps.toList).flatten
  | [] => rfl
  | y :: ys => by
    have key : ∀ (l : List Str) (acc : Array Nat), (l.foldl (fun acc p => acc ++ (("" : Str)).cps ++ p.cps) acc).toList = acc.toList ++ (l.map fun y => y.cps.toList).flatten := by
      intro l
      induction l with
      | nil => intro acc; simp
      | cons a l ih =>
        intro acc
        rw [List.foldl_cons, ih]
        have e : (("" : Str)).cps = #[] := rfl
        rw [e]
        simp
    exact key ys y.cps
mutual
theorem dp_mono {K : PySem.W.Frag} {H H' : Hp} (hl : ∀ a xs, SqL K H a xs → SqL K H' a xs) (ht : ∀ a xs, SqT K H a xs → SqT K H' a xs) : ∀ (d : PyData) (v : V), Dp K H v d → Dp K H' v d
  | .none, _, h => by cases h; exact .non
  | .bool b, _, h => by cases h; exact .bl b
  | .int i, _, h => by cases h; exact .int i
  | .str x, _, h => by cases h; exact .str x
  | .list ds, _, h => by
    cases h with
    | lst hs ha => exact .lst (hl _ _ hs) (dp_monoAll hl ht ds _ ha)
  | .tuple ds, _, h => by
    cases h with
    | tup hs ha => exact .tup (ht _ _ hs) (dp_monoAll hl ht ds _ ha)
  | .dict _, _, h => by cases h
theorem dp_monoAll {K : PySem.W.Frag} {H H' : Hp} (hl : ∀ a xs, SqL K H a xs → SqL K H' a xs) (ht : ∀ a xs, SqT K H a xs → SqT K H' a xs) : ∀ (ds : List PyData) (vs : List V), DpAll K H vs ds → DpAll K H' vs ds
  | [], _, h => by cases h; exact .nil
  | d :: ds, _, h => by
    cases h with
    | cons h1 h2 => exact .cons (dp_mono hl ht d _ h1) (dp_monoAll hl ht ds _ h2)
end
theorem rd_keep {H H' : Hp} {b a : Addr} {o : HO} (hk : ∀ a o, a ≠ b → H a = some o → H' a = some o) (hb : ∃ kvs, H b = some (.dK kvs)) (no : ∀ kvs, o ≠ .dK kvs) (h : Rd H a o) : Rd H' a o := by
  obtain ⟨kvs, hb⟩ := hb
  rcases h with h | ⟨ob, h⟩
  · refine .inl (hk a o (fun e => ?_) h)
    rw [e, hb] at h
    exact no kvs (Option.some.inj h).symm
  · refine .inr ⟨ob, hk a _ (fun e => ?_) h⟩
    rw [e, hb] at h
    cases h
theorem dp_same {K : PySem.W.Frag} {H H' : Hp} {d : PyData} {v : V} (s : Same H H') (h : Dp K H v d) : Dp K H' v d := by
  refine dp_mono (fun _ _ q => s.seq q) (fun a xs q => ?_) d v h
  rcases q with (q | ⟨ob, q⟩) | q
  · exact .inl (.inl (s _ _ q))
  · exact .inl (.inr ⟨ob, s _ _ q⟩)
  · exact .inr q
theorem dp_kp {K : PySem.W.Frag} {b : Addr} {H H' : Hp} {d : PyData} {v : V} (B : Bag H b) (k : Kp b H H') (h : Dp K H v d) : Dp K H' v d := by
  refine dp_mono (fun a xs q => ?_) (fun a xs q => ?_) d v h
  · rcases q with q | q
    · exact .inl (rd_keep k.keep B.some (fun _ e => by cases e) q)
    · exact .inr q
  · rcases q with q | q
    · exact .inl (rd_keep k.keep B.some (fun _ e => by cases e) q)
    · exact .inr q
/-- data that repr shows -/
structure Shw (K : PySem.W.Frag) (H : Hp) (v : V) (d : PyData) : Prop where
  dp : Dp K H v d
  sh : d.showable = true
  nd : d.hasDict = false
  dep : d.depth ≤ 50
  len : d.shown.length ≤ sizeLine
  ok : isF (.str d.shown) = true
theorem Shw.same {K : PySem.W.Frag} {H H' : Hp} {d : PyData} {v : V} (s : Same H H') (h : Shw K H v d) : Shw K H' v d := ⟨dp_same s h.dp, h.sh, h.nd, h.dep, h.len, h.ok⟩
theorem Shw.kp {K : PySem.W.Frag} {b : Addr} {H H' : Hp} {d : PyData} {v : V} (B : Bag H b) (k : Kp b H H') (h : Shw K H v d) : Shw K H' v d := ⟨dp_kp B k h.dp, h.sh, h.nd, h.dep, h.len, h.ok⟩
end Fx
/-! x == y by an own __eq__; own methods and makers in a try's body; a def that is given the caught error -/
namespace Fx
open PySem PySem.Spec PyProof.Rows L2
section
variable {X : Cx} {CX : CXT} {k : Nat} {C : Addr} {ps : List Str} {sp : Sp} {E : XK}
/-- x == y, both of the class at C -/
def rOwnEq (C : Addr) (sp : Sp) (E : XK) : R2 := fun x y H Q => ∃ a b dx dy fs gs, x = .ref a ∧ y = .ref b ∧ H a = some (.ins C dx fs) ∧ H b = some (.ins C dy gs) ∧ sp [.ref a, .ref b] H (fun v H' => ∃ r, v = .bl r ∧ Q (.bl r) H') E
theorem op_eqOwn (M : CalM X.prog X.w X.K X.mg X.base CX k C "__eq__" ps sp) (hr : Room k X.A) (hx : Passes CX X E) : OpR X (compareOp .Eq) (rOwnEq C sp E) := by
  intro pins s σ H x y v u Q I rx ry hq
  obtain ⟨f, fd, m, b, F⟩ := M.ex
  obtain ⟨a, c, dx, dy, fs, gs, rfl, rfl, ha, hc, hsp⟩ := hq
  cases rx
  cases ry
  obtain ⟨mA, J, _⟩ := ins_get I.hok ha
  obtain ⟨mB, J', _⟩ := ins_get I.hok hc
  obtain ⟨od, J, _⟩ := J.look
  obtain ⟨od', J', _⟩ := J'.look
  obtain ⟨mm, hF⟩ := I.fr
  show wpAny (model X.prog X.w) X.A (richCompare .Eq (.ref a) (.ref c)) (EP X pins σ Q) X.xe s
  refine PySem.W.cmp_K (op := .Eq) (tb := .ref C) hr.units0 hF I.ok.mod.kin J J'.type (by simp [PySem.W.notFirst]) m.at_ m.fn ?_
  refine wpAny_mono (run_fn (us := [.ref a, .ref c]) (vs := [.ref a, .ref c]) (ds := []) (dvs := []) (Q := fun v H' => ∃ r, v = .bl r ∧ Q (.bl r) H') F hr b .nil hx I (.cons rfl (.cons rfl .nil)) hsp) (fun v s' hv => ?_) fun _ _ z => z
  obtain ⟨z, H', I', rz, r, rfl, q⟩ := hv
  cases rz
  exact ⟨.bl r, H', I', rfl, q⟩
end
/-! ### in a try's body -/
section
variable {X : Cx} {k : Nat} {f C : Addr} {fd : FuncData} {ps : List Str} {sp : Sp} {W : WX} {x m : Str} {p pos apos : Pos} {e o : Expr} {es : List Expr} {ta : TE} {t : TA}
def tMethT (C : Addr) (m : Str) (sp : Sp) (E : L2.St → XK) (ta : TE) (t : TA) : TE := fun σ H Q => ta σ H fun x H1 => ∃ a dx fs, x = .ref a ∧ H1 a = some (.ins C dx fs) ∧ fs.lookup m = none ∧ t σ H1 fun vs H2 => sp (x :: vs) H2 Q (E σ)
theorem pe_methT {pl : Sem Bool} (he : PE X o ta) (c : Cls X.K C) (hm : Meth X.K C m f) (F : FnOk X.prog X.w X.K X.mg X.base (L2.CX X.prog X.w) k f fd ps sp) (hr : Room k X.A) (hb : Binds X.K fd ps []) (tk : Takes X W) (ha : PA X (e :: es) t)
    (hst : starEach (e :: es) X.env = (false, eval e X.env) :: starEach es X.env := by rfl) (hpl : (backTo pos (starEach es X.env)).any (·.1) = false := by rfl)
    (ht : eval (.Call (.Attribute o m apos) (e :: es) [] pos) X.env = (do
      let ov ← eval o X.env
      standAt apos.atName
      let (f, first) ← holding [ov] (getMethod ov m pl)
      callWith pos f first (backTo pos (starEach (e :: es) X.env)) (backToKw pos (keywordEach [] X.env))) := by rfl) :
    PE X (.Call (.Attribute o m apos) (e :: es) [] pos) (tMethT C m sp (WE W) ta t) := by
  refine ⟨fun pins s σ H Q I h => ?_⟩
  refine PySem.W.methodCall_KW (pl := pl) (thn (he.run pins s σ H _ I h) fun u s1 ⟨x, H1, I1, rx, a, dx, fs, ex, ea, l, q⟩ => ?_) ht
  subst ex
  obtain rfl : u = Value.ref a := rx
  refine getmeth_ok I1 ea c hm l ?_
  refine PySem.W.callWith_K (first := [.ref a]) (h₀ := X.base) I.ok.mod.kin hm.kp (thn (ha.run pos pins s1 σ H1 _ I1 q) fun us s2 ⟨vs, H2, I2, r, q2⟩ => ⟨I2.kIn, ?_⟩) hst hpl
  exact run_fnS (us := .ref a :: us) (vs := .ref a :: vs) (E := WE W) F hr hb (passAt tk σ) I2 (.cons rfl r) q2
/-- C(..) -/
def tMakeT (C : Addr) (sp : Sp) (E : L2.St → XK) (t : TA) : TE := fun σ H Q => t σ H fun vs H1 => ∀ x dx, H1 x = none → H1 dx = none → dx ≠ x →
  sp (.ref x :: vs) (upd (upd H1 dx (.own x)) x (.ins C dx [])) (fun v H2 => v = .non ∧ Q (.ref x) H2) (E σ)
theorem pe_mkT (M : CalI X.prog X.w X.K X.mg X.base (L2.CX X.prog X.w) k C ps sp) (hr : Room (k + 1) X.A) (hm : X.mg x = some (.ref C)) (tk : Takes X W) (ha : PA X (e :: es) t) (hg : Gl X x := by rfl) (hdb : (x == ("__debug__" : Str)) = false := by decide)
    (hs : (e :: es).all nostar = true := by rfl) : PE X (.Call (.Name x p) (e :: es) [] pos) (tMakeT C sp (WE W) t) := by
  obtain ⟨f, fd, m, b, F⟩ := M.ex
  simp only [List.all_cons, Bool.and_eq_true] at hs
  refine ⟨fun pins s σ H Q I h => ?_⟩
  refine wpAny_Call_Name_kw (ld_glob I hg hm ?_ hdb)
  refine PySem.W.callWith_K (h₀ := X.base) I.ok.mod.kin m.kp (thn (ha.run pos pins s σ H _ I h) fun us s1 ⟨vs, H1, I1, r, q⟩ => ⟨I1.kIn, ?_⟩) (star_ok hs.1) (back_ok hs.2)
  have hq := q (s1.heap.objs.size + 1) s1.heap.objs.size (I1.hok.fresh (Nat.le_succ _)) (I1.hok.fresh (Nat.le_refl _)) (Nat.ne_of_lt (Nat.lt_succ_self _))
  have I2 := Inv.made (C := C) I1
  have r2 : Vals (V.ref (s1.heap.objs.size + 1) :: vs) (Value.ref (s1.heap.objs.size + 1) :: us) := .cons rfl r
  have hl : (Value.ref (s1.heap.objs.size + 1) :: us).length = ps.length := by
    have e := r2.length
    rw [F.len _ _ _ _ hq] at e
    exact e.symm
  have b2 := b _ (Value.ref (s1.heap.objs.size + 1) :: us) I2.kIn (by rw [List.append_nil]; exact hl)
  rw [List.append_nil] at b2
  refine wpAny_call (make_map (f := f) I1.kIn m.makes m.init (beq_iff_eq.mp m.fn) (codeAny_mono (F.run _ X.stack _ _ ⟨Value.ref (s1.heap.objs.size + 1) :: us, []⟩ (Value.ref (s1.heap.objs.size + 1) :: us) _ _ (WE W σ) (hr.make C us [])
    (I2.env0.make C us []) b2 r2 hq) fun r s' hq' => ?_))
  cases r with
  | error e => exact passAt tk σ pins _ _ e s' I2 hq'
  | ok fl =>
    cases fl with
    | ret u =>
      obtain ⟨v, H', I3, rv, ev, q3⟩ := I2.after hq'
      subst ev
      exact ⟨rv, ⟨V.ref (s1.heap.objs.size + 1), H', I3, rfl, q3⟩⟩
    | next => exact False.elim hq'
    | brk => exact False.elim hq'
    | cont => exact False.elim hq'
end
/-! ### a def that is given the error which the caller's suite holds -/
abbrev SpE := Addr → Value → Option Addr → Hp → VK → Prop
structure FnE (P : Program) (w : World) (K : PySem.W.Frag) (mg : Str → Option Value) (base : Heap) (k : Nat) (f : Addr) (fd : FuncData) (x : Str) (sp : SpE) : Prop where
  run : ∀ (A : Around) (outer : List Env) (s : Shared) (H : Hp) (args : Args) (Q : VK) (a : Addr) (oe : Obj) (cls : Value) (d : Option Addr), L2H.RoomH k A → L2H.PinOk outer H s (a, oe) → Zc cls d oe → (∃ vs, oe.data = .fields vs) → Env0 P w K mg base A outer s H →
    BindsTo s fd args [(x, .ref a)] → sp a cls d H Q → codeAny (model P w) A (.call (.ref f) args) (CR CX0 outer P w H s Q E0) s
/-- the context of its body -/
abbrev cxE (P : Program) (w : World) (K : PySem.W.Frag) (mg : Str → Option Value) (base : Heap) (N : List Str) (qual : Str) (scope : Scope) (f : Addr) (cd : Value) (A : Around) (outer : List Env) (s : Shared) (H : Hp) (p : Addr × Obj) : Cx :=
  (L2H.cxH CX0 P w K mg base N qual scope f cd A outer s H E0 p).nox
theorem fn_ofE {P : Program} {w : World} {K : PySem.W.Frag} {mg : Str → Option Value} {base : Heap} {k : Nat} {f : Addr} {name qual : Str} {params : Arguments} {body : List Stmt} {scope : Scope} {dV kV doc pm cdv ct oc : Value} {an od : Option Addr}
    {osl : Array (Option Value)} {N : List Str} {x : Str} {sp : SpE} (lk : K.lookup f = some ⟨oc, od, .func (PySem.W.fnOf name qual params body scope dV kV doc pm an cdv ct), osl⟩) (hcd : PySem.W.codeIn K cdv qual = true) (S : FnScope N [x] scope)
    (hbody : ∀ (A : Around) (outer : List Env) (s : Shared) (H : Hp) (Q : VK) (a : Addr) (oe : Obj) (cls : Value) (d : Option Addr), L2H.RoomH k (A.deeper (envOfC qual scope s.heap.objs.size f cdv)) → Zc cls d oe → (∃ vs, oe.data = .fields vs) → sp a cls d H Q →
      ∃ t, PSs (cxE P w K mg base N qual scope f cdv A outer s H (a, oe)) body t ∧ t { nx := fun _ H' => Q .non H', rt := Q } (L2.start N [.ref a]) H) :
    FnE P w K mg base (k + 1) f (PySem.W.fnOf name qual params body scope dV kV doc pm an cdv ct) x sp := by
  refine ⟨fun A outer s H args Q a oe cls d hr hpin hz hf e0 hb hsp => ?_⟩
  have KX : K.In s.heap := e0.mod.kin.keeps fun b o e => (e0.bs b o e).1
  have lim : s.heap.NoLimit := e0.mod.nolimit.keeps fun b o e => (e0.bs b o e).1
  have hkind : ∀ y ∈ [(x, Value.ref a)], scope.names.lookup y.1 = some .local ∨ (scope.names.lookup y.1 = some .cell ∧ ((cellsFrom (s.heap.objs.size + 1) scope.names []).lookup y.1).isSome = true) := fun y hy => by
    have ey : y = (x, Value.ref a) := List.mem_singleton.mp hy
    rw [ey]
    rcases S.par x List.mem_cons_self with q | q
    · exact .inl q
    · exact .inr ⟨q, PySem.W.cellsFrom_some _ _ _ (.inl q)⟩
  refine codeAny_call_function hr.depth (KX _ _ lk) rfl S.co S.gen rfl (PySem.W.codeRec_of KX hcd) (hb _ _ _ _ ?_)
  refine wpAny_newFunctionEnv_cells S.kind hkind fun env he s1 y => ?_
  subst he
  refine ⟨lim.keeps y.toInCall.keep, codeAny_func ?_⟩
  obtain ⟨t, ht, hq⟩ := hbody A outer s H Q a oe cls d (hr.deeper _) hz hf hsp
  have I : Inv (L2H.cxH CX0 P w K mg base N qual scope f cdv A outer s H E0 (a, oe)) [] (L2.start N [.ref a]) H s1 := L2H.inv_startH (us := [.ref a]) S hpin e0 rfl (.cons rfl .nil) y
  refine wpAny_mono (ht.nox.run [] s1 (L2.start N [.ref a]) H _ I hq) (fun fl s' hs => ?_) fun e s' hs => hs
  have fin : ∀ {σ' : L2.St} {H' : Hp} {v : V} {u : Value}, Inv (L2H.cxH CX0 P w K mg base N qual scope f cdv A outer s H E0 (a, oe)) [] σ' H' s' → RelV v u → Q v H' → CE outer P w H s Q u s' :=
    fun {σ' H' v u} J rv q => ⟨v, H', J.os, J.bare, J.base, J.hok, rv, q⟩
  cases fl with
  | ret u =>
    obtain ⟨v, σ', H', J, rv, q⟩ := hs
    exact fin J rv q
  | next =>
    obtain ⟨σ', H', J, q⟩ := hs
    exact fin (v := V.non) (u := Value.none) J rfl q
  | brk =>
    obtain ⟨_, _, _, q⟩ := hs
    exact False.elim q
  | cont =>
    obtain ⟨_, _, _, q⟩ := hs
    exact False.elim q
structure CalE (P : Program) (w : World) (K : PySem.W.Frag) (mg : Str → Option Value) (base : Heap) (k : Nat) (x : Str) (ps : List Str) (sp : SpE) : Prop where
  ex : ∃ f fd y, ps = [y] ∧ mg x = some (.ref f) ∧ PySem.W.keepIn K (.ref f) = true ∧ Binds K fd [y] [] ∧ FnE P w K mg base k f fd y sp
theorem Src.calE {P : Program} {w : World} {K : PySem.W.Frag} {mg : Str → Option Value} {base : Heap} {x y : Str} {st : Stmt} {N : List Str} {k : Nat} {sp : SpE} (S : Src K mg x st) (sc : FnScope N [y] (defScope st)) (bn : BindP x st [y])
    (hbody : ∀ (f : Addr) (cdv : Value) (A : Around) (outer : List Env) (s : Shared) (H : Hp) (Q : VK) (a : Addr) (oe : Obj) (cls : Value) (d : Option Addr), L2H.RoomH k (A.deeper (envOfC x (defScope st) s.heap.objs.size f cdv)) → Zc cls d oe → (∃ vs, oe.data = .fields vs) → sp a cls d H Q →
      ∃ t, PSs (cxE P w K mg base N x (defScope st) f cdv A outer s H (a, oe)) (defBody st) t ∧ t { nx := fun _ H' => Q .non H', rt := Q } (L2.start N [.ref a]) H) : CalE P w K mg base (k + 1) x [y] sp := by
  obtain ⟨f, fd, g, F⟩ := S
  have b := F.bindsN bn
  have kp := F.kp
  obtain ⟨oc, od, dV, kV, doc, pm, an, cdv, ct, osl, rfl, lk, hcd, _, _⟩ := F.ex
  exact ⟨f, _, y, rfl, g, kp, b, fn_ofE lk hcd sc fun A outer s H Q a oe cls d hr hz hf hsp => hbody f cdv A outer s H Q a oe cls d hr hz hf hsp⟩
section
variable {X : Cx} {k : Nat} {x : Str} {ps : List Str} {sp : SpE} {p pos : Pos} {e : Expr} {te : TA} {a : Addr} {oe : Obj} {cls : Value} {d : Option Addr} {pn : List (Addr × Obj)}
def tCallE (a : Addr) (cls : Value) (d : Option Addr) (sp : SpE) (te : TA) : TE := fun σ H Q => te σ H fun vs H1 => vs = [.ref a] ∧ sp a cls d H1 Q
/-- f(err) in the suite -/
theorem pe_calE (C : CalE X.prog X.w X.K X.mg X.base k x ps sp) (hr : Room k X.A) (hz : Zc cls d oe) (hf : ∃ vs, oe.data = .fields vs) (ha : PA (X.suite a ((a, oe) :: pn)) [e] te) (hg : Gl (X.suite a ((a, oe) :: pn)) x := by rfl) (hdb : (x == ("__debug__" : Str)) = false := by decide)
    (hs : nostar e = true := by rfl) : PE (X.suite a ((a, oe) :: pn)) (.Call (.Name x p) [e] [] pos) (tCallE a cls d sp te) := by
  obtain ⟨f, fd, y, _, g, kp, b, F⟩ := C.ex
  refine ⟨fun pins s σ H Q I h => ?_⟩
  refine wpAny_Call_Name_kw (ld_glob I hg g ?_ hdb)
  refine PySem.W.callWith_K (h₀ := X.base) I.ok.mod.kin kp (thn (ha.run pos pins s σ H _ I h) fun us s1 ⟨vs, H1, I1, r, ev, q⟩ => ⟨I1.kIn, ?_⟩) (star_ok hs) rfl
  subst ev
  cases r with
  | cons rx rr =>
    cases rr
    cases rx
    have P1 := I1.pin (a, oe) (List.mem_append_left _ List.mem_cons_self)
    have hpin : L2H.PinOk X.stack H1 s1 (a, oe) := ⟨P1.1, P1.2.1, fun hm => (List.mem_cons.mp (I1.stkSub a hm)).elim P1.2.2.1 P1.2.2.2.1, P1.2.2.2.2⟩
    have bb := b s1 [.ref a] I1.kIn rfl
    refine wpAny_call (codeAny_mono (F.run (X.suite a ((a, oe) :: pn)).A X.stack s1 H1 ⟨[.ref a], []⟩ Q a oe cls d ⟨hr.dp, hr.un⟩ hpin hz hf I1.env0 bb q) fun r s' hq => ?_)
    cases r with
    | error e => exact False.elim hq
    | ok fl =>
      cases fl with
      | ret u => exact I1.after hq
      | next => exact False.elim hq
      | brk => exact False.elim hq
      | cont => exact False.elim hq
end
/-- isinstance(err, (C1, C2, ..)) -/
def rIsYT (K : PySem.W.Frag) (a : Addr) (cls : Value) (d : Option Addr) : List V → Hp → VK → Prop := fun xs H Q => ∃ tp, xs = [.ref a, .ref tp] ∧ ∃ D, cls = .ref D ∧ ∃ dd, d = some dd ∧ (∃ fs, H dd = some (.xd fs)) ∧ ExcC K D ∧
  ∃ cs, H tp = some (.tup cs) ∧ ∃ us, cs.map clsVal = us.map some ∧ ∃ b, PySem.W.kitAny K (.ref D) us = some b ∧ Q (.bl b) H
theorem cls_vals : ∀ {cs : List V} {us ws : List Value}, cs.map clsVal = us.map some → Vals cs ws → ws = us
  | [], [], _, _, .nil => rfl
  | [], _ :: _, _, h, _ => by cases h
  | _ :: _, [], _, h, _ => by cases h
  | c :: cs, u :: us, _, h, .cons r rr => by
    simp only [List.map_cons, List.cons.injEq] at h
    have e2 := cls_vals h.2 rr
    subst e2
    congr 1
    have h1 := h.1
    cases c with
    | ref C2 => cases h1; exact r
    | ty n => cases h1; exact r
    | _ => cases h1
theorem call_isYT {X : Cx} {a : Addr} {oe : Obj} {cls : Value} {d : Option Addr} (hp : (a, oe) ∈ X.pn) (hz : Zc cls d oe) (hf : ∃ vs, oe.data = .fields vs) : CallR X (.builtin "isinstance") (rIsYT X.K a cls d) := by
  intro pins s σ H xs us Q I r h
  obtain ⟨tp, rfl, D, rfl, dd, rfl, ⟨fs, hdd⟩, C, cs, hT, ws, hcs, b, e, q⟩ := h
  cases r with
  | cons rx rr =>
    cases rr with
    | cons rt rr =>
      cases rr
      cases rx
      cases rt
      obtain ⟨hget, _⟩ := I.pin (a, oe) (List.mem_append_left _ hp)
      obtain ⟨vs, hv⟩ := hf
      have hx : ObjOk X.prog X.w H s.heap dd (.xd fs) := I.hok dd _ hdd
      obtain ⟨mA, ⟨od, es, ep, ho, hrest⟩, hr⟩ := hx
      have J : PySem.W.InstAt s.heap a oe D (some od) := ⟨hget, hz.1, by unfold PySem.W.notCls; rw [hv] <;> rfl, by rw [hz.2]; exact ho⟩
      obtain ⟨_, its, rv, o, h1, h2, n, h3⟩ := (show ObjOk X.prog X.w H s.heap tp (.tup cs) from I.hok tp _ hT)
      have e3 := cls_vals hcs rv
      subst e3
      obtain ⟨oc, od2, dt, sl⟩ := o
      simp only at h2 h3
      subst h2 h3
      exact PySem.W.kia_tup (PySem.W.fx_kitx C.hg C.hk C.hs C.hd C.ha C.hn C.ht C.hm) I.kIn ⟨_, J⟩ h1 e (fun z => nomatch z) fun tk => ⟨.bl b, H, I.kept (t' := tk) fun _ _ z => z, rfl, q⟩
end Fx
namespace Fx
open PySem PySem.Spec PyProof.Rows L2
/-- // of any sign -/
def CDivZ (_ j : Int) : Prop := j ≠ 0 ∧ j.natAbs.log2 < 9000
section
variable {X : Cx}
theorem op_fdivZ : OpR X (binaryOp .FloorDiv) (rI CDivZ fun i j => .int (i.fdiv j)) := opI fun i j _ _ _ _ _ hc q => floordiv_int hc.1 q (.inl (PyProof.noPylong_of_log2 hc.2))
def rIntB : List V → Hp → VK → Prop := fun xs H Q => ∃ k, xs = [.bl k] ∧ Q (.int (if k = true then 1 else 0)) H
theorem int_B : CallR X (.type "int") rIntB := CallR.imp call_int1 fun xs H Q h => .inr h
/-- a callee that may raise, and does not -/
theorem passX : Passes (L2.CX X.prog X.w) X E0 := fun _ _ _ _ _ _ _ h => by
  obtain ⟨_, _, _, _, _, _, _, _, _, _, _, _, hE⟩ := h
  exact hE.elim
end
theorem cdivZ_of {i j : Int} (h0 : j ≠ 0) (h : j.natAbs < 2 ^ 64) : CDivZ i j := ⟨h0, Nat.lt_trans (PySem.Flt.log2_lt_of (by decide) h) (by decide)⟩
theorem Bag.ins {H : Hp} {b : Addr} (B : Bag H b) {a C dx : Addr} {fs : List (Str × V)} (h : H a = Option.some (.ins C dx fs)) : a ≠ b := by
  obtain ⟨c, ns, x, r, m, n, h1, _⟩ := B
  exact ne_of h h1 (by intro z; cases z)
theorem Kp.ins {H H1 : Hp} {b : Addr} (x : Kp b H H1) (B : Bag H b) {a C dx : Addr} {fs : List (Str × V)} (h : H a = Option.some (.ins C dx fs)) : H1 a = Option.some (.ins C dx fs) := x.keep _ _ (B.ins h) h
end Fx
namespace Fx
open PySem PySem.Spec PyProof.Rows L2
/-- isinstance(o, C), o an instance of an own class -/
def rIsI (K : PySem.W.Frag) : List V → Hp → VK → Prop := fun xs H Q => ∃ a c, xs = [.ref a, c] ∧ ∃ D dx fs, H a = some (.ins D dx fs) ∧ C8.InsC K D ∧ ∃ cv, clsVal c = some cv ∧ ∃ b, PySem.W.kitOne K (.ref D) cv = some b ∧ Q (.bl b) H
theorem is_I {X : Cx} : CallR X (.builtin "isinstance") (rIsI X.K) := by
  intro pins s σ H xs us Q I r h
  obtain ⟨a, c, rfl, D, dx, fs, ha, k, cv, hcv, b, hb, q⟩ := h
  obtain ⟨u, w', rfl, ru, rw'⟩ := vals2 r
  have e : w' = cv := by
    cases c with
    | ref C2 => cases hcv; exact rw'
    | ty n => cases hcv; exact rw'
    | _ => cases hcv
  subst e
  exact isinst_ok I ru (TyOf.ins ha k.cl k.ha k.hn k.htk k.hm) hb fun tk => ⟨.bl b, H, I.tok _, rfl, q⟩
def insB (K : PySem.W.Frag) (C : Addr) : Bool := decide (PySem.W.findIn K (.ref C) "__class__" = some (some (.builtin "object.__class__"))) && (decide (PySem.W.specialIn K (.builtin "object.__class__") "__get__" = some (some (.builtin "getset_descriptor.__get__"))) &&
  (decide (PySem.W.takesIn K (.builtin "object.__class__") = some true) && (decide (PySem.W.mroIn K C (.type "object") = some true) && decide (PySem.W.kitOne K (.ref C) (.ref C) = some true))))
theorem insC_of {K : PySem.W.Frag} {C : Addr} (cl : Cls K C) (h : insB K C = true) : C8.InsC K C := by
  obtain ⟨h1, h⟩ := He.ba h
  obtain ⟨h2, h⟩ := He.ba h
  obtain ⟨h3, h⟩ := He.ba h
  obtain ⟨h4, h5⟩ := He.ba h
  exact ⟨cl, of_decide_eq_true h1, of_decide_eq_true h2, of_decide_eq_true h3, of_decide_eq_true h4, of_decide_eq_true h5⟩
end Fx
namespace Fx
open PySem PySem.Spec PyProof.Rows L2
/-- the loop over a list or a tuple that stays, by an invariant -/
theorem forQ {K : PySem.W.Frag} {a : Addr} {xs : List V} {j : Nat} {g : TG} {tb : TS} {D : Ends} {σ : L2.St} {H : Hp} (hv : σ[j]? = some (some (.ref a))) (hq : Sq H a xs) (Pv : Nat → L2.St → Hp → Prop) (h0 : Pv 0 σ H) (hS : ∀ i σ H', Pv i σ H' → Same H H')
    (hs : ∀ i x σ H, xs[i]? = some x → Pv i σ H → g x σ H fun σ2 H2 => tb { D with nx := Pv (i + 1), ct := Pv (i + 1), bk := D.nx } σ2 H2) (hd : ∀ σ H, Pv xs.length σ H → D.nx σ H) : tFor (iQ K (tVar j)) g tb D σ H := by
  rcases hq with hq | hq
  · exact .inl ⟨_, hv, a, rfl, ⟨_, .inl (.inl hq)⟩, for_list (K := K) (a := a) (xs := xs) Pv h0 (fun i σ H' _ p => .inl (.inl (hS i σ H' p _ _ hq))) hs hd⟩
  · exact .inr ⟨_, hv, a, rfl, ⟨_, .inl (.inl hq)⟩, for_tup (K := K) (a := a) (xs := xs) Pv h0 (fun i σ H' _ p => .inl (.inl (hS i σ H' p _ _ hq))) hs hd⟩
end Fx
namespace Fx
open PySem PySem.Spec PyProof.Rows L2
/-- a statement first; what follows stays folded -/
theorem nxI {t : TS} {D : Ends} {σ : L2.St} {H : Hp} (h : ∀ K : L2.St → Hp → Prop, (∀ σ H, D.nx σ H → K σ H) → t { D with nx := K } σ H) : t D σ H := h D.nx fun _ _ x => x
end Fx
/-! Instances of own classes under the operators: len(o), o[i], x in o, o | p, o != p, list(o) -/
namespace PySem.W
open PySem PySem.Spec PySem.Calls PyProof.Rows
section
variable {prog : Program} {w : World} {A : Around} {E : Value → Shared → Prop} {s : Shared} {K : Frag} {x C L f : Addr} {h₀ : Heap} {m : Str → Option Value} {ox : Obj} {od : Option Obj} {b tb : Value}
theorem fx_ne_K {Q : Value → Shared → Prop} (hu : A.units + 1 < cLine) (F : Fr h₀ L s.heap m) (X₀ : K.In h₀) (I : InstAt s.heap x ox C od) (hb : Looks (model prog w) s.heap (typeOf b) tb) (hn : notFirst K C tb = true)
    (hs : findIn K (.ref C) "__ne__" = some (some (.builtin "object.__ne__"))) (hq : findIn K (.ref C) "__eq__" = some (some (.ref f))) (hf : isFn K (.ref f) = true) (ho : subIn K (.ref C) (.type "object") = some true)
    (h : wpAny (model prog w) A.in1 (call (.ref f) [.ref x, b]) (fun v s' => ∃ r, v = .bool r ∧ Q (.bool (!r)) s') E s) : wpAny (model prog w) A (richCompare .NotEq (.ref x) b) Q E s := by
  have X := X₀.keeps F.keep
  have fin : wpAny (model prog w) A (call (.builtin "object.__ne__") [.ref x, b]) (fun v s' => ∃ r, v = .bool r ∧ Q v s') E s := by
    refine wpAny_call (codeAny_call_builtin PySem.F.cmp_object.ne.plain PySem.F.cmpEntry_ne ?_)
    refine check_slot (i := "object.__ne__") (owner := "object") (n := "__ne__") PySem.F.cmpKind_ne PySem.F.cmpSplit_ne (I.type.andThen (looks_subIn X ho)) (PySem.F.cmpArgs_ne _ _) ?_
    unfold Builtin.«object.__ne__»
    refine wpAny_bind (wpAny_of_eq (a := ((Value.ref x : Value), [b])) (by first | rfl | (simp only [slotArgs]; rfl)) ?_)
    refine wpAny_bind (wpAny_cRoomFor (show A.in1.units < cLine from hu) ?_)
    refine wpAny_bind (ifBound_K X I hq hf (wpAny_mono h (fun v s' hv => ?_) fun _ _ e => e))
    obtain ⟨r, rfl, q⟩ := hv
    refine wpAny_bind (m := truthy (.bool r)) (wpAny_truthy_bool ?_)
    first | exact wpAny_pure ⟨_, rfl, ⟨_, rfl, q⟩⟩ | exact wpAny_pure ⟨_, rfl, q⟩ | exact wpAny_pure q
  have one : wpAny (model prog w) A (tryCompare (.ref x) "__ne__" b) (fun r s' => ∃ v, r = some v ∧ Q v s') E s := by
    unfold tryCompare
    have fin2 : wpAny (model prog w) A (call (.builtin "object.__ne__") ([.ref x] ++ [b]) >>= fun v => pure (some v)) (fun r s' => ∃ c, r = some (.bool c) ∧ Q (.bool c) s') E s := wpAny_bind (wpAny_mono fin (fun v s' hv => by
      obtain ⟨r, rfl, q⟩ := hv
      exact wpAny_pure ⟨_, rfl, q⟩) fun _ _ e => e)
    have two : wpAny (model prog w) A (callSpecialIfBound? (.ref x) "__ne__" [b]) (fun r s' => ∃ c, r = some (.bool c) ∧ Q (.bool c) s') E s := by
      simp only [callSpecialIfBound?, bindSpecialIfBound?]
      refine wpAny_holding (wpAny_bind (wpAny_bind (wpAny_bind (I.type.here ((looks_findIn X hs).here ?_)))))
      refine wpAny_bind (wpAny_askSetting (wpAny_ite ?_))
      split
      · rw [PySem.F.cmp_object.ne.bind]
        exact wpAny_bind (wpAny_pure (wpAny_pure (by exact fin2)))
      · rw [PySem.F.cmp_object.ne.bind]
        exact wpAny_tryCatch (wpAny_bind (wpAny_pure (wpAny_pure (by exact fin2))))
    refine wpAny_bind (wpAny_mono two (fun r s' hv => ?_) fun _ _ e => e)
    obtain ⟨c, rfl, q⟩ := hv
    exact wpAny_pure ⟨_, rfl, q⟩
  unfold richCompare
  simp only [oneThing_ref]
  refine wpAny_holding (wpAny_bind (wpAny_cRoomFor (Nat.lt_of_succ_lt hu) ?_))
  refine wpAny_bind (I.type.here (wpAny_bind (hb.here ?_)))
  split
  · rename_i q
    have e : subIn K tb (.ref C) = some false := by
      rcases Bool.or_eq_true_iff.mp hn with e | e
      · rw [beq_iff_eq.mp e] at q; simp at q
      · exact beq_iff_eq.mp e
    refine wpAny_bind ((looks_subIn X e).here ?_)
    simp only [Bool.false_eq_true, if_false]
    refine wpAny_bind (wpAny_mono one (fun r s' z => ?_) fun _ _ e => e)
    obtain ⟨v, rfl, hq⟩ := z
    exact wpAny_pure hq
  · refine wpAny_bind (wpAny_pure ?_)
    simp only [Bool.false_eq_true, if_false]
    refine wpAny_bind (wpAny_mono one (fun r s' z => ?_) fun _ _ e => e)
    obtain ⟨v, rfl, hq⟩ := z
    exact wpAny_pure hq
end
end PySem.W
namespace Fx
open PySem PySem.Spec PyProof.Rows L2
section
variable {X : Cx} {CX : CXT} {k : Nat} {C : Addr} {ps : List Str} {sp : Sp} {E : XK}
/-- the callee runs somewhere below -/
theorem run_fnA {A : Around} {f : Addr} {fd : FuncData} {pins : List (Addr × Obj)} {σ : L2.St} {H : Hp} {s : Shared} {Q : VK} {us : List Value} {vs : List V} (hA : A.frames = X.A.frames) (F : FnOk X.prog X.w X.K X.mg X.base CX k f fd ps sp) (hr : Room k A) (hb : Binds X.K fd ps []) (hx : Passes CX X E)
    (I : Inv X pins σ H s) (r : Vals vs us) (h : sp vs H Q E) : wpAny (model X.prog X.w) A (call (.ref f) us) (EP X pins σ Q) X.xe s := by
  have e0 : Env0 X.prog X.w X.K X.mg X.base A X.stack s H := by
    have e := I.env0
    exact ⟨by rw [hA]; exact e.frames, e.mod, e.bs, e.bsz, e.funs, e.frf, e.hok, e.bare⟩
  have hl : us.length = ps.length := by rw [← r.length]; exact F.len _ _ _ _ h
  have b := hb s us I.kIn (by rw [List.append_nil]; exact hl)
  rw [List.append_nil] at b
  refine wpAny_call (codeAny_mono (F.run A X.stack s H ⟨us, []⟩ us vs Q E hr e0 b r h) fun r s' hq => ?_)
  cases r with
  | error e => exact hx pins σ H s e s' I hq
  | ok fl =>
    cases fl with
    | ret u => exact I.after hq
    | next => exact False.elim hq
    | brk => exact False.elim hq
    | cont => exact False.elim hq
theorem inst_at {pins : List (Addr × Obj)} {σ : L2.St} {H : Hp} {s : Shared} {a dx : Addr} {fs : List (Str × V)} (I : Inv X pins σ H s) (ha : H a = some (.ins C dx fs)) : ∃ ox od, PySem.W.InstAt s.heap a ox C od := by
  obtain ⟨mA, J, _⟩ := ins_get I.hok ha
  obtain ⟨od, J, _⟩ := J.look
  exact ⟨_, _, J⟩
/-- len(o) -/
def rLenO (C : Addr) (sp : Sp) (E : XK) : List V → Hp → VK → Prop := fun xs H Q => ∃ a dx fs, xs = [.ref a] ∧ H a = some (.ins C dx fs) ∧ sp [.ref a] H (fun v H' => ∃ n, v = .int n ∧ 0 ≤ n ∧ n < 2 ^ 63 ∧ Q (.int n) H') E
theorem len_O (M : CalM X.prog X.w X.K X.mg X.base CX k C "__len__" ps sp) (hr : Room (k + 1) X.A) (hx : Passes CX X E) : CallR X (.builtin "len") (rLenO C sp E) := by
  intro pins s σ H xs us Q I rv h
  obtain ⟨a, dx, fs, rfl, ha, hsp⟩ := h
  obtain ⟨f, fd, m, b, F⟩ := M.ex
  obtain ⟨u, rfl, ru⟩ := rv.one
  cases ru
  obtain ⟨ox, od, J⟩ := inst_at I ha
  obtain ⟨mm, hF⟩ := I.fr
  refine PySem.W.len_K hF I.ok.mod.kin J m.at_ m.fn ?_
  refine wpAny_mono (run_fnA (A := X.A.in1) (vs := [.ref a]) (us := [.ref a]) rfl F hr.in1 b hx I (.cons rfl .nil) hsp) (fun v s' hv => ?_) fun _ _ z => z
  obtain ⟨z, H', I', rz, n, rfl, h0, h1, q⟩ := hv
  obtain ⟨t, rfl⟩ := rz
  exact ⟨⟨h0, h1⟩, .int n, H', I'.tok _, ⟨_, rfl⟩, q⟩
/-- x in o -/
def rInO (C : Addr) (sp : Sp) (E : XK) : R2 := fun x y H Q => ∃ a dx fs, y = .ref a ∧ H a = some (.ins C dx fs) ∧ sp [.ref a, x] H (fun v H' => ∃ r, v = .bl r ∧ Q (.bl r) H') E
def rNotInO (C : Addr) (sp : Sp) (E : XK) : R2 := fun x y H Q => ∃ a dx fs, y = .ref a ∧ H a = some (.ins C dx fs) ∧ sp [.ref a, x] H (fun v H' => ∃ r, v = .bl r ∧ Q (.bl (!r)) H') E
theorem in_O (M : CalM X.prog X.w X.K X.mg X.base CX k C "__contains__" ps sp) (hr : Room k X.A) (hx : Passes CX X E) : OpR X (compareOp .In) (rInO C sp E) := by
  intro pins s σ H x y v u Q I rx ry hq
  obtain ⟨f, fd, m, b, F⟩ := M.ex
  obtain ⟨a, dx, fs, rfl, ha, hsp⟩ := hq
  cases ry
  obtain ⟨ox, od, J⟩ := inst_at I ha
  obtain ⟨mm, hF⟩ := I.fr
  refine PySem.W.in_K hF I.ok.mod.kin J m.at_ m.fn ?_
  refine wpAny_mono (run_fnA (vs := [.ref a, x]) (us := [.ref a, v]) rfl F hr b hx I (.cons rfl (.cons rx .nil)) hsp) (fun v s' hv => ?_) fun _ _ z => z
  obtain ⟨z, H', I', rz, r, rfl, q⟩ := hv
  cases rz
  exact wpAny_truthy_bool ⟨.bl r, H', I', rfl, q⟩
theorem notIn_O (M : CalM X.prog X.w X.K X.mg X.base CX k C "__contains__" ps sp) (hr : Room k X.A) (hx : Passes CX X E) : OpR X (compareOp .NotIn) (rNotInO C sp E) := by
  intro pins s σ H x y v u Q I rx ry hq
  obtain ⟨f, fd, m, b, F⟩ := M.ex
  obtain ⟨a, dx, fs, rfl, ha, hsp⟩ := hq
  cases ry
  obtain ⟨ox, od, J⟩ := inst_at I ha
  obtain ⟨mm, hF⟩ := I.fr
  refine PySem.W.notIn_K hF I.ok.mod.kin J m.at_ m.fn ?_
  refine wpAny_mono (run_fnA (vs := [.ref a, x]) (us := [.ref a, v]) rfl F hr b hx I (.cons rfl (.cons rx .nil)) hsp) (fun v s' hv => ?_) fun _ _ z => z
  obtain ⟨z, H', I', rz, r, rfl, q⟩ := hv
  cases rz
  exact wpAny_truthy_bool ⟨.bl (!r), H', I', rfl, q⟩
/-- o op p, both of the class at C -/
def rBinO (C : Addr) (sp : Sp) (E : XK) : R2 := fun x y H Q => ∃ a b dx dy fs gs, x = .ref a ∧ y = .ref b ∧ H a = some (.ins C dx fs) ∧ H b = some (.ins C dy gs) ∧ sp [.ref a, .ref b] H (fun v H' => ∃ r, v = .ref r ∧ Q (.ref r) H') E
theorem bin_O {op : Operator} {mn : Str} (hop : PySem.dunder op.info.2 = mn) (M : CalM X.prog X.w X.K X.mg X.base CX k C mn ps sp) (hc : PySem.W.selfFirst X.K C = true) (hr : Room k X.A) (hx : Passes CX X E) : OpR X (binaryOp op) (rBinO C sp E) := by
  intro pins s σ H x y v u Q I rx ry hq
  obtain ⟨f, fd, m, b, F⟩ := M.ex
  obtain ⟨a, c, dx, dy, fs, gs, rfl, rfl, ha, hb, hsp⟩ := hq
  cases rx
  cases ry
  subst hop
  obtain ⟨ox, od, J⟩ := inst_at I ha
  obtain ⟨oy, od', J'⟩ := inst_at I hb
  obtain ⟨mm, hF⟩ := I.fr
  refine PySem.W.binop_K hF I.ok.mod.kin J J'.type hc m.at_ m.fn ?_
  refine wpAny_mono (run_fnA (vs := [.ref a, .ref c]) (us := [.ref a, .ref c]) rfl F hr b hx I (.cons rfl (.cons rfl .nil)) hsp) (fun v s' hv => ?_) fun _ _ z => z
  obtain ⟨z, H', I', rz, r, rfl, q⟩ := hv
  cases rz
  exact ⟨.ref r, H', I', rfl, q⟩
/-- o != p by the own __eq__ -/
def rNeO (C : Addr) (sp : Sp) (E : XK) : R2 := fun x y H Q => ∃ a b dx dy fs gs, x = .ref a ∧ y = .ref b ∧ H a = some (.ins C dx fs) ∧ H b = some (.ins C dy gs) ∧ sp [.ref a, .ref b] H (fun v H' => ∃ r, v = .bl r ∧ Q (.bl (!r)) H') E
def neB (K : PySem.W.Frag) (C : Addr) : Bool := decide (PySem.W.findIn K (.ref C) "__ne__" = some (some (.builtin "object.__ne__"))) && decide (PySem.W.subIn K (.ref C) (.type "object") = some true)
theorem ne_O (M : CalM X.prog X.w X.K X.mg X.base CX k C "__eq__" ps sp) (hn : neB X.K C = true) (hr : Room (k + 1) X.A) (hx : Passes CX X E) : OpR X (compareOp .NotEq) (rNeO C sp E) := by
  intro pins s σ H x y v u Q I rx ry hq
  obtain ⟨f, fd, m, b, F⟩ := M.ex
  obtain ⟨a, c, dx, dy, fs, gs, rfl, rfl, ha, hb, hsp⟩ := hq
  cases rx
  cases ry
  obtain ⟨h1, h2⟩ := He.ba hn
  obtain ⟨ox, od, J⟩ := inst_at I ha
  obtain ⟨oy, od', J'⟩ := inst_at I hb
  obtain ⟨mm, hF⟩ := I.fr
  show wpAny (model X.prog X.w) X.A (richCompare .NotEq (.ref a) (.ref c)) (EP X pins σ Q) X.xe s
  refine PySem.W.fx_ne_K (tb := .ref C) (by have := hr.un; omega) hF I.ok.mod.kin J J'.type (by simp [PySem.W.notFirst]) (of_decide_eq_true h1) m.at_ m.fn (of_decide_eq_true h2) ?_
  refine wpAny_mono (run_fnA (A := X.A.in1) (vs := [.ref a, .ref c]) (us := [.ref a, .ref c]) rfl F hr.in1 b hx I (.cons rfl (.cons rfl .nil)) hsp) (fun v s' hv => ?_) fun _ _ z => z
  obtain ⟨z, H', I', rz, r, rfl, q⟩ := hv
  cases rz
  exact ⟨r, rfl, .bl (!r), H', I', rfl, q⟩
/-- o[i] -/
def rIxO (C : Addr) (sp : Sp) (E : XK) : R2 := fun x y H Q => ∃ a dx fs, x = .ref a ∧ H a = some (.ins C dx fs) ∧ sp [.ref a, y] H Q E
def ixB (K : PySem.W.Frag) (C : Addr) : Bool := match PySem.W.findIn K (.ref C) "__getitem__" with
  | some (some (.ref f)) => PySem.W.fnIn K f
  | _ => false
theorem pe_ixO {ae be : Expr} {ta tb : TE} {pos : Pos} (M : CalM X.prog X.w X.K X.mg X.base CX k C "__getitem__" ps sp) (hr : Room (k + 1) X.A) (hx : Passes CX X E) (ha : PE X ae ta) (hb : PE X be tb)
    (hs : ∀ v u, subscripted be true v u = runValue (.builtin "lifetime.subscript" ⟨[v, u], []⟩)) (hfn : ixB X.K C = true) : PE X (.Subscript ae be pos) (tOp (rIxO C sp E) ta tb) := by
  obtain ⟨f, fd, m, b, F⟩ := M.ex
  refine ⟨fun pins s σ H Q I h => ?_⟩
  refine Subscript_ (binT ha hb I h fun v u s2 x y H2 I2 rx ry q => ?_)
  obtain ⟨a, dx, fs, rfl, hA, hsp⟩ := q
  cases rx
  obtain ⟨ox, od, J⟩ := inst_at I2 hA
  obtain ⟨mm, hF⟩ := I2.fr
  refine PySem.W.sub_K hF I2.ok.mod.kin J m.at_ (by unfold ixB at hfn; rw [m.at_] at hfn; exact hfn) m.fn ?_ (hs _ _)
  exact run_fnA (A := X.A.in1) (vs := [.ref a, y]) (us := [.ref a, u]) rfl F hr.in1 b hx I2 (.cons rfl (.cons ry .nil)) hsp
end
end Fx
namespace Fx
open PySem PySem.Spec PyProof.Rows L2
/-! ### a tuple whose object is known (its methods may be called) -/
def FT (H : Hp) (p : Addr) (xs : List V) : Prop := ∃ ob : Obj, H p = some (.frz ob (.tup xs)) ∧ ob.dict = none
theorem FT.same {H H' : Hp} {p : Addr} {xs : List V} (h : FT H p xs) (s : Same H H') : FT H' p xs := by
  obtain ⟨ob, h, d⟩ := h
  exact ⟨ob, s _ _ h, d⟩
theorem FT.kp {b : Addr} {H H' : Hp} {p : Addr} {xs : List V} (h : FT H p xs) (B : Bag H b) (k : Kp b H H') : FT H' p xs := by
  obtain ⟨ob, h, d⟩ := h
  refine ⟨ob, k.keep _ _ ?_ h, d⟩
  obtain ⟨kvs, hb⟩ := B.some
  exact ne_of h hb (by intro z; cases z)
theorem FT.sq {K : PySem.W.Frag} {H : Hp} {p : Addr} {xs : List V} (h : FT H p xs) : SqT K H p xs := by
  obtain ⟨ob, h, _⟩ := h
  exact .inl (.inr ⟨ob, h⟩)
section
variable {X : Cx}
/-- tuple(xs) -/
def rTupF : List V → Hp → VK → Prop := fun vs H Q => ∃ p, vs = [.ref p] ∧ ∃ ys, H p = some (.lst ys) ∧ ∀ l H', H l = none → Same H H' → FT H' l ys → Q (.ref l) H'
theorem tup_F : CallR X (.type "tuple") rTupF := by
  intro pins s σ H xs us Q I r h
  obtain ⟨p, rfl, ys, hp, q⟩ := h
  obtain ⟨u, rfl, rx⟩ := r.one
  cases rx
  obtain ⟨its, r', pl, hz⟩ := I.list (xs := ys) (.inl (.inl hp))
  have hlen := r'.length
  refine call_tuple_list pl.isList (fun h' kp => ?_) (by simp only [List.size_toArray] <;> omega)
  have I1 : Inv X pins σ H { s with heap := h' } := I.kept (t' := s.toks) kp
  have I2 : Inv X pins σ (upd H h'.objs.size (.frz { cls := .type "tuple", data := .seq its.toArray } (.tup ys))) { s with heap := h'.push { cls := .type "tuple", data := .seq its.toArray } } :=
    I1.laid (t' := s.toks) (fun b o e => Heap.get?_push_of_some _ e) (Nat.le_refl _) (show ObjOk X.prog X.w _ _ _ (.frz _ (.tup ys)) from ⟨Heap.get?_push_size _ rfl, hz, its, r', IsTup.new _ _⟩)
  have nl : H h'.objs.size = none := I1.hok.fresh (Nat.le_refl _)
  exact ⟨.ref h'.objs.size, _, I2, rfl, q _ _ nl (same_new nl) ⟨_, upd_same, rfl⟩⟩
end
end Fx
namespace Fx
open PySem PySem.Spec PyProof.Rows L2
/-! ### iter(t), t a tuple; list(o) of an instance whose __iter__ says iter(self.f) -/
def TItO (p it : Addr) (i : Nat) : HO := .ext fun h => h.IsTupleIter it p i
def EndO (it : Addr) : HO := .ext fun h => ∃ o, h.get? it = some o
theorem titO_ok {P : Program} {w : World} {H : Hp} {h : Heap} {p it : Addr} {i : Nat} (e : h.IsTupleIter it p i) : ObjOk P w H h it (TItO p it i) := ⟨e, let ⟨o, ho, _⟩ := e; ⟨o, ho⟩, fun h1 h2 q k => let ⟨o, ho, r⟩ := q; ⟨o, k _ ho, r⟩⟩
theorem endO_ok {P : Program} {w : World} {H : Hp} {h : Heap} {it : Addr} (e : ∃ o, h.get? it = some o) : ObjOk P w H h it (EndO it) := ⟨e, e, fun h1 h2 q k => let ⟨o, ho⟩ := q; ⟨o, k _ ho⟩⟩
section
variable {prog : Program} {w : World} {A : Around} {E : Value → Shared → Prop} {s : Shared}
theorem call_iterT0 {t : Addr} {items : Array Value} {Q : Value → Shared → Prop} (hl : s.heap.IsTuple t items) (h : Q (.ref s.heap.objs.size) { s with heap := s.heap.push { cls := .type "tuple_iterator", data := .fields #[.ref t, .int 0 0] } }) : wpAny (model prog w) A (call (.builtin "iter") [.ref t]) Q E s := by
  refine Calls.call_function_entry (by decide +kernel) (by decide +kernel) PySem.W.kdk_entry_iter (PySem.W.kdk_args_iter _) ?_
  unfold Builtin.«iter»
  refine wpAny_bind (m := someArgs "iter" 1 2 _) (wpAny_of_eq (a := [Value.ref t]) (by first | rfl | kernel_rfl!) ?_)
  show wpAny _ _ (pyIter (.ref t) >>= _) _ _ _
  refine wpAny_bind (wpAny_pyIter_tuple hl ?_)
  exact wpAny_pure ⟨_, rfl, h⟩
/-- the end, with the iterator still there -/
theorem next_tuple_end {it t : Addr} {i : Nat} {items : Array Value} {Q : Option Value → Shared → Prop} (hh : A.handled = none)
    (hit : s.heap.IsTupleIter it t i) (ht : s.heap.IsTuple t items) (hx : items[i]? = none)
    (hQ : ∀ h', Heap.ExtBut it s.heap h' → (∃ o, h'.get? it = some o) → Q none { s with heap := h' }) : wpAny (model prog w) A (pyNext (.ref it)) Q E s := by
  obtain ⟨o, ho, hc, hd⟩ := id hit
  obtain ⟨ol, hol, _, nl, hdl⟩ := ht
  unfold pyNext
  refine wpAny_bind (wpAny_attempt (wpAny_callSpecial?_slot (name := Str.ofString "__next__") hit.typeIs PySem.F.slot_tuple_iterator_next
    (wpAny_call_entry PySem.F.slot_tuple_iterator_next hit.typeIs PySem.F.entry_tuple_iterator_next ?_ (PySem.F.args_tuple_iterator_next_1 _))))
  show wpAny _ _ (field (.ref it) 0 >>= _) _ _ s
  refine wpAny_bind (wpAny_field ho hd (x := .ref t) rfl ?_)
  show wpAny _ _ (if (Value.ref t == Value.none) = true then _ else _) _ _ s
  rw [if_neg (show ¬ ((Value.ref t == Value.none) = true) from Bool.false_ne_true)]
  show wpAny _ _ (field (.ref it) 1 >>= _) _ _ s
  refine wpAny_bind (wpAny_field ho hd (x := .int i 0) rfl ?_)
  show wpAny _ _ (seqItems? (.ref t) >>= _) _ _ s
  refine wpAny_bind (wpAny_seqItems hol hdl ?_)
  simp only [Int.toNat_natCast, hx]
  refine wpAny_bind (wpAny_rule (wpAny_bind (wpAny_setField ho hd (by simp) ?_)))
  show wpAny _ _ (newExc (.type "StopIteration") [] >>= _) _ _ _
  refine wpAny_bind ?_
  simp only [newExc, newTuple]
  refine wpAny_bind (wpAny_newObj_type ?_ (by size_fits))
  refine wpAny_bind (m := firstArgMember _ _) (wpAny_of_eq (a := Value.none) (by first | rfl | (simp only [firstArgMember]; rfl)) ?_)
  refine wpAny_newObj_type ?_ (by size_fits)
  simp only [raiseNew]
  refine wpAny_bind (wpAny_handled ?_)
  first | rw [show A.in1.handled = none from hh] | rw [hh]
  refine wpAny_bind (wpAny_pure (wpAny_throw ?_))
  refine wpAny_bind (wpAny_isInstance (T := "StopIteration") (b := true) ⟨_, Heap.get?_push_size _ rfl, rfl⟩ isSubtype_stop ?_)
  refine wpAny_pure (hQ _ (((Heap.SameBut.update ..).extBut.push _).push _) ⟨_, Heap.get?_push_of_some _ (Heap.get?_push_of_some _ (Heap.get?_update_self _ ho (Obj.isFreed_of_fields (Obj.data_mapFields hd _))))⟩)
end
section
variable {X : Cx}
/-- iter(t) -/
def rIterT : List V → Hp → VK → Prop := fun xs H Q => ∃ t, xs = [.ref t] ∧ ∃ zs, FT H t zs ∧ ∀ it, H it = none → Q (.ref it) (upd H it (TItO t it 0))
theorem iter_T : CallR X (.builtin "iter") rIterT := by
  intro pins s σ H xs us Q I r h
  obtain ⟨t, rfl, zs, hq, q⟩ := h
  obtain ⟨u, rfl, ru⟩ := r.one
  cases ru
  obtain ⟨its, rv, pl, hz⟩ := I.tuple (xs := zs) hq.sq
  refine call_iterT0 pl ?_
  exact ⟨.ref s.heap.objs.size, _, I.laid (t' := s.toks) (fun b u e => Heap.get?_push_of_some _ e) (Nat.le_refl _) (titO_ok ⟨_, Heap.get?_push_size _ rfl, rfl, rfl⟩), rfl, q _ (I.hok.fresh (Nat.le_refl _))⟩
theorem upd_in {H : Hp} {a b : Addr} {o u v : HO} (h : a ≠ b) : upd (upd (upd H a o) b u) a v = upd (upd H a v) b u := by
  funext c
  unfold upd
  by_cases h1 : c = a
  · have h2 : c ≠ b := fun e => h (h1.symm.trans e)
    rw [if_pos h1, if_neg h2, if_pos h1]
  · rw [if_neg h1]
    by_cases h2 : c = b
    · rw [if_pos h2, if_pos h2]
    · rw [if_neg h2, if_neg h2, if_neg h1, if_neg h1]
variable {pins : List (Addr × Obj)} {σ : L2.St} {A1 : Around}
theorem tup_loop {H0 : Hp} {p it q : Addr} {ys : List V} {Rs : Result → Shared → Prop} (hh : A1.handled = none) (hiq : it ≠ q) (hpi : p ≠ it) (hpq : p ≠ q) (hp : FT H0 p ys) (hl : ys.length ≤ sizeLine)
    (hdone : ∀ s, Inv X pins σ (upd (upd H0 it (EndO it)) q (.lst ys)) s → Rs (.ok (.ret .none)) s) :
    ∀ (m i : Nat) (s : Shared), ys.length - i = m → i ≤ ys.length → Inv X pins σ (upd (upd H0 it (TItO p it i)) q (.lst (ys.take i))) s → codeAny (model X.prog X.w) A1 (.builtin "list.extend.loop" ⟨[.ref q, .ref it, .none], []⟩) Rs s := by
  intro m
  induction m with
  | zero =>
    intro i s hm hi I
    have ei : i = ys.length := by omega
    refine codeAny_builtin PySem.F.entry_extend_loop ?_
    rw [Around.under_plainId PySem.F.plain_extend_loop _]
    show wpAny _ A1.in1 (pyNext (.ref it) >>= _) _ _ s
    have hH : upd (upd H0 it (TItO p it i)) q (.lst (ys.take i)) it = some (TItO p it i) := by rw [upd_ne hiq, upd_same]
    have hP : FT (upd (upd H0 it (TItO p it i)) q (.lst (ys.take i))) p ys := by
      obtain ⟨ob, hp, hd⟩ := hp
      exact ⟨ob, by rw [upd_ne hpq, upd_ne hpi]; exact hp, hd⟩
    have hit : s.heap.IsTupleIter it p i := (I.hok it _ hH).1
    obtain ⟨its, rv, pl, hz⟩ := I.tuple (xs := ys) hP.sq
    refine wpAny_bind (next_tuple_end (A := A1.in1) hh hit pl (by rw [List.getElem?_toArray]; exact rv.none_of (by rw [ei]; exact List.getElem?_eq_none (Nat.le_refl _))) fun h' eb ex => ?_)
    refine wpAny_pure (hdone _ ?_)
    have mu : Mut (upd (upd H0 it (TItO p it i)) q (.lst (ys.take i)) it) := by rw [hH]; exact True.intro
    have I2 := I.write (x := it) (e := it) (t' := s.toks) mu (.inl rfl) (fun b o nb z => eb b o nb z) ex (endO_ok (H := upd (upd (upd H0 it (TItO p it i)) q (.lst (ys.take i))) it (EndO it)) ex)
    rw [upd_in hiq, ei, List.take_length] at I2
    exact I2
  | succ m ih =>
    intro i s hm hi I
    have hlt : i < ys.length := by omega
    refine codeAny_builtin PySem.F.entry_extend_loop ?_
    rw [Around.under_plainId PySem.F.plain_extend_loop _]
    show wpAny _ A1.in1 (pyNext (.ref it) >>= _) _ _ s
    have hH : upd (upd H0 it (TItO p it i)) q (.lst (ys.take i)) it = some (TItO p it i) := by rw [upd_ne hiq, upd_same]
    have hP : FT (upd (upd H0 it (TItO p it i)) q (.lst (ys.take i))) p ys := by
      obtain ⟨ob, hp, hd⟩ := hp
      exact ⟨ob, by rw [upd_ne hpq, upd_ne hpi]; exact hp, hd⟩
    have hit : s.heap.IsTupleIter it p i := (I.hok it _ hH).1
    obtain ⟨its, rv, pl, hz⟩ := I.tuple (xs := ys) hP.sq
    obtain ⟨u, hu, ru⟩ := rv.get (List.getElem?_eq_getElem hlt)
    refine wpAny_bind (wpAny_pyNext_tuple_item hit pl (x := u) (by rw [List.getElem?_toArray]; exact hu) fun h' e' sb => ?_)
    have mu : Mut (upd (upd H0 it (TItO p it i)) q (.lst (ys.take i)) it) := by rw [hH]; exact True.intro
    have ex : ∃ o, h'.get? it = some o := let ⟨o, ho, _⟩ := e'; ⟨o, ho⟩
    have I2 := I.write (x := it) (e := it) (t' := s.toks) mu (.inl rfl) (fun b o nb z => (sb.2 b nb).trans z) ex (titO_ok (H := upd (upd (upd H0 it (TItO p it i)) q (.lst (ys.take i))) it (TItO p it (i + 1))) e')
    rw [upd_in hiq] at I2
    have hq2 : upd (upd H0 it (TItO p it (i + 1))) q (.lst (ys.take i)) q = some (.lst (ys.take i)) := upd_same
    obtain ⟨z, its2, k, r2, hl2, e2⟩ := I2.lstM hq2
    show wpAny _ A1.in1 (updateSeq q (·.push u) >>= _) _ _ _
    have lt : (ys.take i).length = i := by rw [List.length_take]; omega
    refine wpAny_bind (wpAny_updateSeq e2 rfl (wpAny_pure ⟨plainId_quiet PySem.F.plain_extend_loop _, ?_⟩) (by rw [List.size_toArray]; omega) (by show (its2.toArray.push u).size ≤ sizeLine + 1; rw [Array.size_push, List.size_toArray]; omega))
    have I3 := I2.lset (f := (·.push u)) (its' := its2 ++ [u]) (ys := ys.take i ++ [ys[i]]) (t' := s.toks) hq2 e2 (by simp) (r2.append (.cons ru .nil)) (by rw [List.length_append, List.length_singleton]; omega)
    rw [upd_upd, List.take_append_getElem hlt] at I3
    exact ih (i + 1) _ (by omega) hlt I3
end
end Fx
namespace Fx
open PySem PySem.Spec PyProof.Rows L2
section
variable {X : Cx} {k : Nat} {C : Addr} {psI psL : List Str} {spI spL : Sp}
theorem run_fn0 {A : Around} {f : Addr} {fd : FuncData} {ps : List Str} {sp : Sp} {E' : Value → Shared → Prop} {pins : List (Addr × Obj)} {σ : L2.St} {H : Hp} {s : Shared} {Q : VK} {us : List Value} {vs : List V} (hA : A.frames = X.A.frames) (F : FnOk X.prog X.w X.K X.mg X.base CX0 k f fd ps sp) (hr : Room k A) (hb : Binds X.K fd ps [])
    (I : Inv X pins σ H s) (r : Vals vs us) (h : sp vs H Q E0) : wpAny (model X.prog X.w) A (call (.ref f) us) (EP X pins σ Q) E' s := by
  have e0 : Env0 X.prog X.w X.K X.mg X.base A X.stack s H := by
    have e := I.env0
    exact ⟨by rw [hA]; exact e.frames, e.mod, e.bs, e.bsz, e.funs, e.frf, e.hok, e.bare⟩
  have hl : us.length = ps.length := by rw [← r.length]; exact F.len _ _ _ _ h
  have b := hb s us I.kIn (by rw [List.append_nil]; exact hl)
  rw [List.append_nil] at b
  refine wpAny_call (codeAny_mono (F.run A X.stack s H ⟨us, []⟩ us vs Q E0 hr e0 b r h) fun r s' hq => ?_)
  cases r with
  | error e => exact False.elim hq
  | ok fl =>
    cases fl with
    | ret u => exact I.after hq
    | next => exact False.elim hq
    | brk => exact False.elim hq
    | cont => exact False.elim hq
/-- the own __len__ tells the length ahead of the filling -/
theorem own_hintL {A : Around} {pins : List (Addr × Obj)} {σ : L2.St} {H : Hp} {s : Shared} {a dx : Addr} {fs : List (Str × V)} {Q : Bool → Shared → Prop} (hA : A.frames = X.A.frames) (M : CalM X.prog X.w X.K X.mg X.base CX0 k C "__len__" psL spL) (hr : Room (k + 1) A) (I : Inv X pins σ H s) (ha : H a = some (.ins C dx fs))
    {R : Hp → Prop} (hsp : spL [.ref a] H (fun v H' => ∃ n, v = .int n ∧ 0 ≤ n ∧ n ≤ 1000000 ∧ R H') E0) (hq : ∀ b H' s', Inv X pins σ H' s' → R H' → Q b s') : wpAny (model X.prog X.w) A (Builtin.List.listLengthHint (.ref a)) Q X.xe s := by
  obtain ⟨f, fd, m, b, F⟩ := M.ex
  obtain ⟨ox, od, J⟩ := inst_at I ha
  obtain ⟨mm, hF⟩ := I.fr
  unfold Builtin.List.listLengthHint
  refine wpAny_bind (wpAny_bind (J.type.here ((PySem.W.looks_findIn I.kIn m.at_).here ?_)))
  refine PySem.W.KFB.if_not rfl ?_
  refine PySem.W.KFB.if_so rfl ?_
  refine wpAny_bind (wpAny_rule ?_)
  refine wpAny_bind (wpAny_attempt (PySem.W.len_K hF I.ok.mod.kin J m.at_ m.fn ?_))
  refine wpAny_mono (run_fn0 (E' := fun _ _ => False) (A := A.in1) (vs := [.ref a]) (us := [.ref a]) hA F hr.in1 b I (.cons rfl .nil) hsp) (fun v s' hv => ?_) fun _ _ z => z.elim
  obtain ⟨z, H', I', rz, n, rfl, h0, h1, r⟩ := hv
  obtain ⟨t, rfl⟩ := rz
  refine ⟨⟨h0, by omega⟩, ?_⟩
  have tl : Builtin.List.listTooLong n.toNat = false := by
    unfold Builtin.List.listTooLong
    rw [decide_eq_false_iff_not, sizeLine_eq]
    omega
  show wpAny _ _ (asInt? (.int n _) >>= _) _ _ _
  refine wpAny_bind (wpAny_of_eq (a := some n) (by first | rfl | (simp only [asInt?]; rfl)) ?_)
  refine PySem.W.KFB.if_not tl ?_
  exact wpAny_pure (hq _ H' _ (I'.tok _) r)
/-- list(o) -/
def rListO (C : Addr) (spI spL : Sp) : List V → Hp → VK → Prop := fun xs H Q => ∃ a, xs = [.ref a] ∧ ∃ dx fs, H a = some (.ins C dx fs) ∧ ∀ q, H q = none → spI [.ref a] (upd H q (.lst [])) (fun v H1 => ∃ it, v = .ref it ∧ ∃ p, H1 it = some (TItO p it 0) ∧ ∃ dx fs, H1 a = some (.ins C dx fs) ∧
  spL [.ref a] H1 (fun v2 H2 => ∃ n, v2 = .int n ∧ 0 ≤ n ∧ n ≤ 1000000 ∧ H2 it = some (TItO p it 0) ∧ H2 q = some (.lst []) ∧ ∃ ys, FT H2 p ys ∧ Q (.ref q) (upd (upd H2 it (EndO it)) q (.lst ys))) E0) E0
theorem list_O (MI : CalM X.prog X.w X.K X.mg X.base CX0 k C "__iter__" psI spI) (ML : CalM X.prog X.w X.K X.mg X.base CX0 k C "__len__" psL spL) (hc : X.calm = true) (hr : Room (k + 3) X.A) : CallR X (.type "list") (rListO C spI spL) := by
  intro pins s σ H xs us Q I rv h
  obtain ⟨a, rfl, dx, fs, ha, hq⟩ := h
  obtain ⟨u, rfl, ru⟩ := rv.one
  cases ru
  refine callType_codes (Q₁ := fun obj s₁ => obj = .ref s.heap.objs.size ∧ s₁ = { s with heap := s.heap.push { cls := .type "list", data := .seq #[] } }) PySem.F.called_list (PySem.F.typeCall_list_1 _) PySem.F.entry_list_init
    (code_list_new _ ⟨rfl, rfl⟩) fun obj s₁ h₁ => ?_
  obtain ⟨rfl, rfl⟩ := h₁
  have hS : (s.heap.push { cls := .type "list", data := .seq #[] }).get? s.heap.objs.size = some { cls := .type "list", data := .seq #[] } := Heap.get?_push_size _ rfl
  refine ⟨⟨_, hS, rfl⟩, PySem.F.args_list_init_2 _ _, ?_⟩
  have fr : H s.heap.objs.size = none := I.hok.fresh (Nat.le_refl _)
  have hq := hq _ fr
  have I1 : Inv X pins σ (upd H s.heap.objs.size (.lst [])) { s with heap := s.heap.push { cls := .type "list", data := .seq #[] } } := I.lnew (its := []) (t' := s.toks) .nil (Nat.zero_le _)
  show wpAny _ _ (do let old ← Builtin.List.listItems (.ref s.heap.objs.size); Builtin.List.listUpdate (.ref s.heap.objs.size) (fun _ => #[]); letGo old.toList.reverse; Builtin.List.listExtendWith (.ref s.heap.objs.size) (.ref a) .none) _ _ _
  refine wpAny_bind ?_
  unfold Builtin.List.listItems
  refine wpAny_bind (wpAny_seqItems hS rfl (wpAny_pure ?_))
  show wpAny _ _ (updateSeq s.heap.objs.size (fun _ => #[]) >>= fun _ => letGo (#[] : Array Value).toList.reverse >>= fun _ => Builtin.List.listExtendWith (.ref s.heap.objs.size) (.ref a) .none) _ _ _
  refine wpAny_bind (wpAny_updateSeq hS rfl ?_)
  have I2 := I1.lset (f := fun _ => #[]) (its := []) (its' := []) (ys := []) (t' := s.toks) upd_same hS rfl .nil (Nat.zero_le _)
  rw [upd_upd] at I2
  refine wpAny_bind (wpAny_letGo ?_)
  have ha2 : upd H s.heap.objs.size (.lst []) a = some (.ins C dx fs) := by rw [upd_ne (ne_of_none ha fr)]; exact ha
  generalize s.heap.objs.size = q at *
  have hne : q ≠ a := fun e => by
    rw [e, ha] at fr
    cases fr
  obtain ⟨fi, fdi, mi, bi, Fi⟩ := MI.ex
  obtain ⟨ox, od, J⟩ := inst_at I2 ha2
  obtain ⟨mm, hF⟩ := I2.fr
  have hr1 : Room k X.A.in1.in1 := (Room.in1 (Room.in1 hr)).mono (Nat.le_succ _)
  unfold Builtin.List.listExtendWith
  refine wpAny_bind (J.type.here ?_)
  have h1 : Builtin.List.listSameRef (.ref q) (.ref a) = false := by simp [Builtin.List.listSameRef, hne]
  have h2 : (Value.ref C == Value.type "list") = false := rfl
  have h3 : (Value.ref C == Value.type "tuple") = false := rfl
  simp only [h1, h2, h3, Bool.or_false, Bool.false_eq_true, if_false]
  refine wpAny_bind (PySem.W.owit_iter hF I2.ok.mod.kin J mi.at_ mi.fn ?_)
  refine wpAny_mono (run_fn0 (E' := fun _ _ => False) (A := X.A.in1.in1) (vs := [.ref a]) (us := [.ref a]) rfl Fi hr1 bi I2 (.cons rfl .nil) hq) (fun v s' hv => ?_) fun _ _ z => z.elim
  obtain ⟨z, H1, I3, rz, it, rfl, p, hit, dx1, fs1, ha3, hsp⟩ := hv
  cases rz
  have hit0 : s'.heap.IsTupleIter it p 0 := (I3.hok it _ hit).1
  unfold PySem.W.OwitIt
  refine wpAny_specialOf (name := Str.ofString "__next__") hit0.typeIs PySem.F.slot_tuple_iterator_next.lookup ?_
  refine wpAny_bind (wpAny_holding ?_)
  refine own_hintL (A := X.A.in1.in1) rfl ML ((Room.in1 (Room.in1 hr))) I3 ha3 (R := fun H2 => H2 it = some (TItO p it 0) ∧ H2 q = some (.lst []) ∧ ∃ ys, FT H2 p ys ∧ Q (.ref q) (upd (upd H2 it (EndO it)) q (.lst ys))) hsp (fun room H2 s2 I4 hR => ?_)
  obtain ⟨hi2, hq2, ys, hp2, hQ⟩ := hR
  have hiq : it ≠ q := ne_of hi2 hq2 (by unfold TItO; intro z; cases z)
  obtain ⟨obp, hpp, hpd⟩ := id hp2
  have hpi : p ≠ it := ne_of hpp hi2 (by unfold TItO; intro z; cases z)
  have hpq : p ≠ q := ne_of hpp hq2 (by intro z; cases z)
  have hl : ys.length ≤ sizeLine := (I4.hok p _ hpp).2.1
  have e0 : upd (upd H2 it (TItO p it 0)) q (.lst (ys.take 0)) = H2 := by
    funext c
    unfold upd
    by_cases h1 : c = q
    · rw [if_pos h1, h1]
      exact hq2.symm
    · rw [if_neg h1]
      by_cases h2 : c = it
      · rw [if_pos h2, h2]
        exact hi2.symm
      · rw [if_neg h2]
  have go : ∀ s3, Inv X pins σ H2 s3 → codeAny (model X.prog X.w) X.A.in1 (.builtin "list.extend.loop" ⟨[.ref q, .ref it, .none], []⟩) (wants (fun r s₂ => r = .none ∧ EP X pins σ Q (.ref q) s₂) X.xe) s3 := fun s3 I5 =>
    tup_loop (A1 := X.A.in1) (H0 := H2) (show X.A.in1.handled = none from I5.ok.hd hc) hiq hpi hpq hp2 hl (fun s4 I6 => ⟨rfl, .ref q, _, I6, rfl, hQ⟩) ys.length 0 s3 (by omega) (Nat.zero_le _) (by rw [e0]; exact I5)
  obtain ⟨z, its, kk, r3, hl3, e3⟩ := I4.lstM hq2
  cases r3
  refine wpAny_ite_split (fun _ => ?_) (fun _ => wpAny_pure ⟨plainId_quiet PySem.F.plain_extend_loop _, go _ I4⟩)
  refine wpAny_bind (wpAny_rule ?_)
  refine wpAny_bind ?_
  show wpAny _ _ (updateSeq q (·.push .none) >>= fun _ => updateSeq q (·.pop)) _ _ _
  refine wpAny_bind (wpAny_updateSeq e3 rfl ?_)
  have J2 := I4.lset (f := (·.push Value.none)) (its' := [Value.none]) (ys := [.non]) (t' := s2.toks) hq2 e3 (by simp) (.cons rfl .nil) (by rw [List.length_singleton, sizeLine_eq]; decide)
  obtain ⟨z4, its4, k4, r4, hl4, e4⟩ := J2.lstM upd_same
  obtain ⟨u4, rfl, ru4⟩ := r4.one
  refine wpAny_updateSeq e4 rfl ?_ (by show 1 ≤ sizeLine; rw [sizeLine_eq]; decide) (by show 0 ≤ sizeLine + 1; exact Nat.zero_le _)
  refine wpAny_pure ⟨plainId_quiet PySem.F.plain_extend_loop _, go _ ?_⟩
  have J3 := J2.lset (f := (·.pop)) (its := [u4]) (its' := []) (ys := []) (t' := s2.toks) upd_same e4 (by rfl) .nil (Nat.zero_le _)
  rw [upd_upd] at J3
  have hH : upd H2 q (.lst []) = H2 := by
    funext b
    by_cases hb : b = q
    · rw [hb, upd_same, hq2]
    · rw [upd_ne hb]
  rw [hH] at J3
  exact J3
end
end Fx
namespace Fx
open PySem PySem.Spec PyProof.Rows L2
/-! ### __init__ with one default -/
structure CalID (P : Program) (w : World) (K : PySem.W.Frag) (mg : Str → Option Value) (base : Heap) (CX : CXT) (k : Nat) (C : Addr) (ps : List Str) (dv : V) (sp : Sp) : Prop where
  ex : ∃ f fd ds, Mk K C f ∧ Binds K fd ps [] ∧ Vals [dv] ds ∧ Binds K fd ps ds ∧ FnOk P w K mg base CX k f fd ps sp
section
variable {P : Program} {w : World} {K : PySem.W.Frag} {mg : Str → Option Value} {base : Heap} {CX : CXT} {k : Nat} {C : Addr} {ps : List Str} {dv : V} {sp : Sp}
theorem CalID.full (M : CalID P w K mg base CX k C ps dv sp) : CalI P w K mg base CX k C ps sp := by
  obtain ⟨f, fd, ds, m, b, _, _, F⟩ := M.ex
  exact ⟨f, fd, m, b, F⟩
/-- how its parameters are bound: all are given; the last one lacks -/
abbrev BindD (x q : Str) (st : Stmt) (ps : List Str) (n j : Nat) : Prop := ∀ (T : Addr) (kV doc pm : Value) (an : Option Addr) (cdv ct : Value) (us its : List Value), us.length = n → its.length = 1 →
  ∃ k, bindArgs (PySem.W.fnOf x q (defArgs st) (defBody st) (defScope st) (.ref T) kV doc pm an cdv ct) ⟨us, []⟩ = seqItems? (.ref T) >>= k ∧ k (some its.toArray) = pure (ps.zip (us ++ its.drop j))
theorem calID_of {x q : Str} {st : Stmt} {f : Addr} {fd : FuncData} (F : FunD K x q (defArgs st) (defBody st) (defScope st) [dv] [] f fd) (M : Mk K C f) (n : Nat) (hn : n + 1 = ps.length) (b1 : BindD x q st ps (n + 1) 1) (b0 : BindD x q st ps n 0) (ok : FnOk P w K mg base CX k f fd ps sp) : CalID P w K mg base CX k C ps dv sp := by
  obtain ⟨ds1, v1, B1⟩ := F.binds1 (ps := ps) (n + 1) 1 (by simp) (by simpa using hn) b1
  obtain ⟨ds0, v0, B0⟩ := F.binds1 (ps := ps) n 0 (by simp) (by simpa using hn) b0
  have e : ds1 = [] := by
    cases v1
    rfl
  subst e
  exact ⟨f, fd, ds0, M, B1, v0, B0, ok⟩
theorem ok0D {x qual : Str} {st : Stmt} {N : List Str} {dvs : List V} {f : Addr} {fd : FuncData} (F : FunD K x qual (defArgs st) (defBody st) (defScope st) dvs [] f fd) (sc : FnScope N ps (defScope st)) (len : ∀ vs H Q E, sp vs H Q E → vs.length = ps.length)
    (hbody : ∀ (f : Addr) (cdv : Value) (A : Around) (outer : List Env) (s : Shared) (H : Hp) (vs : List V) (Q : VK) (E : XK), Room k (A.deeper (envOfC qual (defScope st) s.heap.objs.size f cdv)) → sp vs H Q E →
      ∃ t, PSs (cxOf CX0 P w K mg base N qual (defScope st) f cdv A outer s H E).nox (defBody st) t ∧ t { nx := fun _ H' => Q .non H', rt := Q } (L2.start N vs) H) : FnOk P w K mg base CX0 (k + 1) f fd ps sp := by
  refine F.ok sc len fun cdv A outer s H vs Q E hr hsp => ?_
  obtain ⟨t, h, q⟩ := hbody f cdv A outer s H vs Q E hr hsp
  exact ⟨t, h.nox, q⟩
theorem okXD {x qual : Str} {st : Stmt} {N : List Str} {dvs : List V} {f : Addr} {fd : FuncData} (F : FunD K x qual (defArgs st) (defBody st) (defScope st) dvs [] f fd) (sc : FnScope N ps (defScope st)) (len : ∀ vs H Q E, sp vs H Q E → vs.length = ps.length)
    (hbody : ∀ (f : Addr) (cdv : Value) (A : Around) (outer : List Env) (s : Shared) (H : Hp) (vs : List V) (Q : VK) (E : XK), Room k (A.deeper (envOfC qual (defScope st) s.heap.objs.size f cdv)) → sp vs H Q E →
      ∃ t, PSs (cxOf (L2.CX P w) P w K mg base N qual (defScope st) f cdv A outer s H E) (defBody st) t ∧ t { nx := fun _ H' => Q .non H', rt := Q } (L2.start N vs) H) : FnOk P w K mg base (L2.CX P w) (k + 1) f fd ps sp :=
  F.ok sc len fun cdv A outer s H vs Q E hr hsp => hbody f cdv A outer s H vs Q E hr hsp
end
section
variable {X : Cx} {x : Str} {C : Addr} {ps : List Str} {dv : V} {sp : Sp} {k : Nat} {CX : CXT} {E : XK} {e : Expr} {es : List Expr} {t : TA} {p pos : Pos}
/-- C(e, ..), the last one by its default -/
theorem pe_mkD (M : CalID X.prog X.w X.K X.mg X.base CX k C ps dv sp) (hr : Room (k + 1) X.A) (hm : X.mg x = some (.ref C)) (hx : Passes CX X E) (ha : PA X (e :: es) t) (hg : Gl X x := by rfl) (hdb : (x == ("__debug__" : Str)) = false := by decide)
    (hs : (e :: es).all nostar = true := by rfl) : PE X (.Call (.Name x p) (e :: es) [] pos) (tMake C sp [dv] E t) := by
  obtain ⟨f, fd, ds, m, _, vd, b, F⟩ := M.ex
  simp only [List.all_cons, Bool.and_eq_true] at hs
  exact pe_make m F hr hg hm b vd hx ha hdb (star_ok hs.1) (back_ok hs.2)
theorem pe_mkD0 (M : CalID X.prog X.w X.K X.mg X.base CX k C ps dv sp) (hr : Room (k + 1) X.A) (hm : X.mg x = some (.ref C)) (hx : Passes CX X E) (hg : Gl X x := by rfl) (hdb : (x == ("__debug__" : Str)) = false := by decide) : PE X (.Call (.Name x p) [] [] pos) (tMake C sp [dv] E tNil) := by
  obtain ⟨f, fd, ds, m, _, vd, b, F⟩ := M.ex
  exact pe_make0 m F hr hg hm b vd hx hdb
end
end Fx
/-! Lists and tuples of texts: sorted, in, index; list(dict) -/
namespace Fx
open PySem PySem.Spec PyProof.Rows L2
abbrev ms (l : List Str) : List V := l.map V.str
section
variable {X : Cx}
/-- sorted(xs), texts, any number of them -/
def rSortS : List V → Hp → VK → Prop := fun vs H Q => ∃ a, vs = [V.ref a] ∧ ∃ xs : List Str, H a = some (.lst (ms xs)) ∧ ∀ (ys : List Str) (p : Addr), ys.Perm xs → sortedS ys = true → H p = none → Q (.ref p) (upd H p (.lst (ms ys)))
theorem sort_S : CallR X (.builtin "sorted") rSortS := by
  intro pins s σ H vs us Q I r h
  obtain ⟨a, rfl, xs, hs, q⟩ := h
  obtain ⟨its, rv, hl, hz⟩ := I.list (xs := ms xs) (.inl (.inl hs))
  obtain ⟨u, rfl, ru⟩ := r.one
  cases ru
  have hlen0 := rv.length
  rw [List.length_map] at hlen0
  have hz2 : xs.length ≤ sizeLine := by
    have := hz
    rw [List.length_map] at this
    exact this
  refine PyProof.Rows.sorted_strsAny hl.isList rv.strs (by rw [← hlen0]; exact hz2) fun out ys h1 h2 h3 => ?_
  obtain ⟨ep, he'⟩ := PyProof.Rows.sortedAll_at s.heap its out
  have hlen : (ms ys).length ≤ sizeLine := by rw [List.length_map, h2.length_eq]; exact hz2
  exact ⟨.ref _, upd H (s.heap.objs.size + 1) (.lst (ms ys)), I.laid (t' := s.toks) (fun _ _ => PyProof.Rows.sortedAll_old) (Nat.le_succ _) ⟨hlen, out.toList, ep, vals_of_strs h1, he'⟩, rfl, q ys _ h2 h3 (I.hok.fresh (Nat.le_succ _))⟩
theorem flat_ms (l : List Str) : (ms l).all flatV = true := by
  rw [List.all_map]
  exact List.all_eq_true.mpr fun _ _ => rfl
theorem in_ms (z : Str) (l : List Str) : inV (.str z) (ms l) = decide (z ∈ l) := by
  unfold inV
  rw [List.any_map]
  induction l with
  | nil => rfl
  | cons x l ih =>
    rw [List.any_cons, ih]
    show ((x == z) || _) = _
    by_cases e : x = z
    · subst e
      simp
    · have e2 : ¬ z = x := fun h => e h.symm
      simp [e, e2]
/-- z in a list or tuple of texts -/
def rInS (neg : Bool) : R2 := fun x y H Q => ∃ z p, x = .str z ∧ y = .ref p ∧ ∃ l : List Str, Sq H p (ms l) ∧ Q (.bl (if neg = true then !decide (z ∈ l) else decide (z ∈ l))) H
theorem in_S : OpR X (compareOp .In) (rInS false) := by
  intro pins s σ H x y v u Q I rx ry h
  obtain ⟨z, p, rfl, rfl, l, hq, q⟩ := h
  refine op_in_seq pins s σ H _ _ v u Q I rx ry ⟨p, ms l, rfl, hq.elim (fun h => .inl (.inl (.inl h))) (fun h => .inr (.inl (.inl h))), rfl, flat_ms l, ?_⟩
  rw [in_ms]
  exact q
theorem notIn_S : OpR X (compareOp .NotIn) (rInS true) := by
  intro pins s σ H x y v u Q I rx ry h
  obtain ⟨z, p, rfl, rfl, l, hq, q⟩ := h
  refine op_notIn_seq pins s σ H _ _ v u Q I rx ry ⟨p, ms l, rfl, hq.elim (fun h => .inl (.inl (.inl h))) (fun h => .inr (.inl (.inl h))), rfl, flat_ms l, ?_⟩
  rw [in_ms]
  exact q
/-- l.index(z): the first place -/
theorem first_at {z : Str} : ∀ {l : List Str}, z ∈ l → ∃ j, l[j]? = some z ∧ (∀ m, m < j → l[m]? ≠ some z) ∧ j = l.idxOf z
  | x :: l, h => by
    by_cases e : x = z
    · subst e
      exact ⟨0, rfl, fun m hm => absurd hm (Nat.not_lt_zero _), by simp⟩
    · have h' : z ∈ l := (List.mem_cons.mp h).resolve_left fun k => e k.symm
      obtain ⟨j, h1, h2, h3⟩ := first_at h'
      refine ⟨j + 1, by simpa using h1, fun m hm => ?_, ?_⟩
      · cases m with
        | zero => simpa using e
        | succ m => simpa using h2 m (by omega)
      · have e2 : (x == z) = false := by simpa using e
        rw [List.idxOf_cons, e2, h3]
        rfl
def rIdxT : V → List V → Hp → VK → Prop := fun x xs H Q => ∃ p z, x = .ref p ∧ xs = [.str z] ∧ ∃ l : List Str, H p = some (.tup (ms l)) ∧ z ∈ l ∧ Q (.int (l.idxOf z : Nat)) H
theorem idx_T : MtR X "tuple.index" rIdxT := by
  intro pins s σ H x xs v us Q I rx rxs h
  obtain ⟨p, z, rfl, rfl, l, hp, hm, q⟩ := h
  obtain ⟨j, h1, h2, rfl⟩ := first_at hm
  exact mt_tup_index pins s σ H _ _ v us Q I rx rxs ⟨p, l, z, _, rfl, rfl, .inl (.inl hp), h1, h2, q⟩
def rIdxL : V → List V → Hp → VK → Prop := fun x xs H Q => ∃ p z, x = .ref p ∧ xs = [.str z] ∧ ∃ l : List Str, H p = some (.lst (ms l)) ∧ z ∈ l ∧ Q (.int (l.idxOf z : Nat)) H
theorem idx_L : MtR X "list.index" rIdxL := by
  intro pins s σ H x xs v us Q I rx rxs h
  obtain ⟨p, z, rfl, rfl, l, hp, hm, q⟩ := h
  obtain ⟨j, h1, h2, rfl⟩ := first_at hm
  refine mt_index pins s σ H _ _ v us Q I rx rxs ⟨p, ms l, .str z, _, .str z, rfl, rfl, .inl (.inl hp), rfl, flat_ms l, by rw [List.getElem?_map, h1]; rfl, by show (z == z) = true; simp, fun m y hm hy => ?_, q⟩
  rw [List.getElem?_map] at hy
  cases e : l[m]? with
  | none => rw [e] at hy; cases hy
  | some w =>
    rw [e] at hy
    have ey : y = .str w := (Option.some.inj hy).symm
    subst ey
    show (w == z) = false
    have : w ≠ z := fun k => h2 m hm (by rw [e, k])
    simpa using this
end
/-! ### sorted lists of texts, in plain words -/
def sle (a b : Str) : Prop := a.cps.toList ≤ b.cps.toList
theorem sle_trans {a b c : Str} (h1 : sle a b) (h2 : sle b c) : sle a c := List.le_trans h1 h2
theorem sle_anti {a b : Str} (h1 : sle a b) (h2 : sle b a) : a = b := by
  have e := List.le_antisymm h1 h2
  cases a with
  | mk x =>
    cases b with
    | mk y =>
      have e2 : x = y := Array.toList_inj.mp e
      rw [e2]
theorem sle_of {a b : Str} (h : (!ltCps b.cps.toList a.cps.toList) = true) : sle a b := by
  rw [ltCps_eq] at h
  have h2 : ¬ (b.cps.toList < a.cps.toList) := by simpa using h
  exact List.not_lt.mp h2
theorem rising_pw : ∀ {l : List Str} {p : Str}, risingS p l = true → (p :: l).Pairwise sle
  | [], p, _ => by simp
  | x :: l, p, h => by
    obtain ⟨h1, h2⟩ := Bool.and_eq_true_iff.mp h
    have ih := rising_pw h2
    have hpx := sle_of h1
    refine List.Pairwise.cons (fun y hy => ?_) ih
    rcases List.mem_cons.mp hy with rfl | hy
    · exact hpx
    · exact sle_trans hpx ((List.pairwise_cons.mp ih).1 y hy)
theorem sorted_pw {l : List Str} (h : sortedS l = true) : l.Pairwise sle := by
  cases l with
  | nil => exact .nil
  | cons x l => exact rising_pw h
theorem pw_uniq : ∀ {l l' : List Str}, l.Pairwise sle → l'.Pairwise sle → l.Perm l' → l = l'
  | [], l', _, _, h => (List.nil_perm.mp h).symm
  | x :: l, [], _, _, h => absurd h (by simp)
  | x :: l, y :: l', h1, h2, h => by
    have e : x = y := by
      have hx : x ∈ y :: l' := h.mem_iff.mp List.mem_cons_self
      have hy : y ∈ x :: l := h.mem_iff.mpr List.mem_cons_self
      rcases List.mem_cons.mp hx with e | hx
      · exact e
      · rcases List.mem_cons.mp hy with e | hy
        · exact e.symm
        · exact sle_anti ((List.pairwise_cons.mp h1).1 y hy) ((List.pairwise_cons.mp h2).1 x hx)
    subst e
    rw [pw_uniq (List.pairwise_cons.mp h1).2 (List.pairwise_cons.mp h2).2 ((List.perm_cons x).mp h)]
/-- sorted, without doubles, with the same members: the same list -/
theorem sorted_uniq {l l' : List Str} (h1 : sortedS l = true) (h2 : sortedS l' = true) (n1 : l.Nodup) (n2 : l'.Nodup) (hm : ∀ z, z ∈ l ↔ z ∈ l') : l = l' :=
  pw_uniq (sorted_pw h1) (sorted_pw h2) ((List.perm_ext_iff_of_nodup n1 n2).mpr hm)
end Fx
namespace Fx
open PySem PySem.Spec PyProof.Rows L2
section
variable {X : Cx}
/-- t[i], len(t), z in t of a tuple whose object is known -/
def rIxF : R2 := fun x y H Q => ∃ p i, x = .ref p ∧ y = .int i ∧ ∃ xs, FT H p xs ∧ ∃ v, atI xs i = some v ∧ Q v H
theorem ix_F : IxR X rIxF := IxR.imp ix_tup fun x y H Q ⟨p, i, e1, e2, xs, h, v, a, q⟩ => ⟨p, xs, i, v, e1, e2, h.sq, a, q⟩
def rLenF : List V → Hp → VK → Prop := fun xs H Q => ∃ p, xs = [.ref p] ∧ ∃ ys, FT H p ys ∧ Q (.int ys.length) H
theorem len_F : CallR X (.builtin "len") rLenF := CallR.imp call_len_seq fun xs H Q ⟨p, e, ys, h, q⟩ => ⟨p, ys, e, .inr h.sq, q⟩
def rInF (neg : Bool) : R2 := fun x y H Q => ∃ z p, x = .str z ∧ y = .ref p ∧ ∃ l : List Str, FT H p (ms l) ∧ Q (.bl (if neg = true then !decide (z ∈ l) else decide (z ∈ l))) H
theorem in_F : OpR X (compareOp .In) (rInF false) := by
  intro pins s σ H x y v u Q I rx ry h
  obtain ⟨z, p, rfl, rfl, l, hq, q⟩ := h
  refine op_in_seq pins s σ H _ _ v u Q I rx ry ⟨p, ms l, rfl, .inr hq.sq, rfl, flat_ms l, ?_⟩
  rw [in_ms]
  exact q
theorem notIn_F : OpR X (compareOp .NotIn) (rInF true) := by
  intro pins s σ H x y v u Q I rx ry h
  obtain ⟨z, p, rfl, rfl, l, hq, q⟩ := h
  refine op_notIn_seq pins s σ H _ _ v u Q I rx ry ⟨p, ms l, rfl, .inr hq.sq, rfl, flat_ms l, ?_⟩
  rw [in_ms]
  exact q
def rIdxF : V → List V → Hp → VK → Prop := fun x xs H Q => ∃ p z, x = .ref p ∧ xs = [.str z] ∧ ∃ l : List Str, FT H p (ms l) ∧ z ∈ l ∧ Q (.int (l.idxOf z : Nat)) H
theorem idx_F : MtR X "tuple.index" rIdxF := by
  intro pins s σ H x xs v us Q I rx rxs h
  obtain ⟨p, z, rfl, rfl, l, hp, hm, q⟩ := h
  obtain ⟨j, h1, h2, rfl⟩ := first_at hm
  exact mt_tup_index pins s σ H _ _ v us Q I rx rxs ⟨p, l, z, _, rfl, rfl, hp.sq, h1, h2, q⟩
/-- t.m(e, ..) -/
def tBMF (r : V → List V → Hp → VK → Prop) (to : TE) (t : TA) : TE := fun σ H Q => to σ H fun x H1 => ∃ p, x = .ref p ∧ (∃ xs, FT H1 p xs) ∧ t σ H1 fun vs H2 => r x vs H2 Q
variable {o e : Expr} {es : List Expr} {to : TE} {t : TA} {name : Str} {apos cpos : Pos} {id : String} {r : V → List V → Hp → VK → Prop}
theorem pe_bmF (slot : Slot "tuple" name id) (hty : typeOf (.builtin id) = pure (.type "method_descriptor")) (hm : MtR X id r) (ho : PE X o to) (ha : PA X (e :: es) t)
    (hbase : attributeBase o name X.env (eval o X.env) = eval o X.env := by rfl)
    (hfew : ((backTo cpos (starEach (e :: es) X.env)).all (fun x => !x.1) && (backToKw cpos (keywordEach [] X.env)).all (fun x => x.1.isSome)
      && decide ((e :: es).length + ([] : List Keyword).length + (if ([] : List Keyword).isEmpty then 0 else 1) < 30)) = true := by rfl)
    (hline : (apos.endLine == cpos.line) = true := by rfl) (hs : starEach (e :: es) X.env = (false, eval e X.env) :: starEach es X.env := by rfl) (hplain : (backTo cpos (starEach es X.env)).any (·.1) = false := by rfl) :
    PE X (.Call (.Attribute o name apos) (e :: es) [] cpos) (tBMF r to t) := by
  refine ⟨fun pins s σ H Q I h => ?_⟩
  refine wpAny_Call_method_late hbase hfew hline rfl (thn (ho.run pins s σ H _ I h) fun v s1 ⟨x, H1, I1, r1, p, ex, ⟨xs, ob, hp, hd⟩, q1⟩ => ?_)
  subst ex
  obtain rfl : v = Value.ref p := r1
  have hob := (I1.hok p _ hp).1
  obtain ⟨_, its, _, o2, ho2, hc2, _⟩ := (I1.hok p _ hp).2
  have eo : o2 = ob := by
    rw [hob] at ho2
    exact (Option.some.inj ho2).symm
  subst eo
  refine ⟨"tuple", id, PySem.F.plainAttrs_tuple, slot, hty, ⟨o2, hob, hc2⟩, fun a e => ?_, ?_⟩
  · cases e
    exact ⟨o2, hob, hd⟩
  have hA := ha.run cpos pins s1 σ H1 _ I1 q1
  rw [hs] at hA ⊢
  refine Calls.callWith_builtin (by show (false || (backTo cpos (starEach es X.env)).any (·.1)) = false; rw [hplain] <;> rfl) (Calls.evalArgs_plain ?_)
  exact thn hA fun us s2 ⟨vs, H2, I2, r2, q2⟩ => hm pins s2 σ H2 (.ref p) vs (.ref p) us Q I2 rfl r2 q2
/-- t == u -/
def rEqF : R2 := fun x y H Q => ∃ p q, x = .ref p ∧ y = .ref q ∧ ∃ xs ys, FT H p xs ∧ FT H q ys ∧ xs.all isF = true ∧ ys.all isF = true ∧ Q (.bl (decide (xs = ys))) H
theorem eq_FF (hu : X.A.units + 64 < cLine) : OpR X (compareOp .Eq) rEqF := by
  intro pins s σ H x y v u Q I rx ry h
  obtain ⟨p, q, rfl, rfl, xs, ys, hp, hq, fx, fy, k⟩ := h
  refine op_eqD hu pins s σ H _ _ v u Q I rx ry ⟨.tuple (xs.map datV), .tuple (ys.map datV), .tup hp.sq (dpAll_dat fx), .tup hq.sq (dpAll_dat fy), shaped_flatT fx, shaped_flatT fy, ?_⟩
  rw [PyData.eqv, eqvAll_dat fx fy]
  exact k
end
theorem ms_inj {a b : List Str} : ms a = ms b ↔ a = b := by
  constructor
  · intro h
    induction a generalizing b with
    | nil => cases b with
      | nil => rfl
      | cons y b => cases h
    | cons x a ih => cases b with
      | nil => cases h
      | cons y b =>
        simp only [ms, List.map_cons, List.cons.injEq, V.str.injEq] at h
        rw [h.1, ih h.2]
  · intro h
    rw [h]
end Fx
namespace Fx
open PySem PySem.Spec PyProof.Rows L2
/-- e.f with the written part named: inside a comprehension the reading must not lean on its context -/
theorem pe_fldK {X : Cx} {K : PySem.W.Frag} {e : Expr} {f : Str} {ta : TE} {pos : Pos} (hK : X.K = K) (he : PE X e ta) (hb : attributeBase e f X.env (eval e X.env) = eval e X.env) : PE X (.Attribute e f pos) (tFld K ta f) := by
  subst hK
  exact pe_fld he hb
end Fx
/-! Data that repr shows: rows of little data -/
namespace Fx
open PySem PySem.Spec PyProof.Rows L2
/-- little data: depth and shown length -/
structure Sm (d : PyData) (m k : Nat) : Prop where
  sh : d.showable = true
  nd : d.hasDict = false
  dep : d.depth ≤ m
  len : d.shown.length ≤ k
  ok : PyData.strOk d.shown = true
theorem Sm.mono {d : PyData} {m k m' k' : Nat} (h : Sm d m k) (hm : m ≤ m') (hk : k ≤ k') : Sm d m' k' := ⟨h.sh, h.nd, Nat.le_trans h.dep hm, Nat.le_trans h.len hk, h.ok⟩
theorem ok_app {a b : Str} (ha : PyData.strOk a = true) (hb : PyData.strOk b = true) : PyData.strOk (a ++ b) = true := by
  unfold PyData.strOk at *
  show (a.cps ++ b.cps).all _ = true
  rw [Array.all_append, ha, hb]
  rfl
theorem textFrom_ok : ∀ (ts : List Str) (n : Nat) (h : Str), (∀ t ∈ ts, PyData.strOk t = true) → PyData.strOk h = true → PyData.strOk (textFrom n h ts) = true
  | [], _, h, _, hh => hh
  | t :: ts, n, h, ht, hh => by
    have h1 := ht t List.mem_cons_self
    have c : PyData.strOk ", " = true := by decide +kernel
    unfold textFrom
    refine textFrom_ok ts _ _ (fun x hx => ht x (List.mem_cons_of_mem _ hx)) ?_
    first
    | (split
       · exact ok_app (ok_app hh c) h1
       · exact ok_app hh h1)
    | exact ok_app (ok_app hh c) h1
theorem listText_ok {ts : List Str} (ht : ∀ t ∈ ts, PyData.strOk t = true) : PyData.strOk (listText ts) = true := ok_app (textFrom_ok ts 0 "[" ht (by decide +kernel)) (by decide +kernel)
theorem sum_le {ts : List Str} {k : Nat} (h : ∀ t ∈ ts, t.length ≤ k) : (ts.map (·.length)).sum ≤ ts.length * k := by
  induction ts with
  | nil => simp
  | cons t ts ih =>
    rw [List.map_cons, List.sum_cons, List.length_cons, Nat.add_mul]
    have := ih fun x hx => h x (List.mem_cons_of_mem _ hx)
    have := h t List.mem_cons_self
    omega
theorem smAll {ds : List PyData} {m k : Nat} (h : ∀ d ∈ ds, Sm d m k) : PyData.showableAll ds = true ∧ PyData.hasDictAll ds = false ∧ PyData.depthAll ds ≤ m := by
  induction ds with
  | nil => exact ⟨by simp [PyData.showableAll], by simp [PyData.hasDictAll], by simp [PyData.depthAll]⟩
  | cons d ds ih =>
    obtain ⟨h1, h2, h3⟩ := ih fun x hx => h x (List.mem_cons_of_mem _ hx)
    have hd := h d List.mem_cons_self
    refine ⟨by simp only [PyData.showableAll, hd.sh, h1, Bool.and_self], by simp only [PyData.hasDictAll, hd.nd, h2, Bool.or_self], ?_⟩
    simp only [PyData.depthAll]
    exact Nat.max_le.mpr ⟨hd.dep, h3⟩
theorem sm_list {ds : List PyData} {m k : Nat} (h : ∀ d ∈ ds, Sm d m k) : Sm (.list ds) (m + 1) (ds.length * (k + 2) + 3) := by
  obtain ⟨h1, h2, h3⟩ := smAll h
  have hall : ∀ t ∈ PyData.shownAll ds, t.length ≤ k ∧ PyData.strOk t = true := by
    rw [shownAll_eq_map]
    intro t ht
    obtain ⟨d, hd, rfl⟩ := List.mem_map.mp ht
    exact ⟨(h d hd).len, (h d hd).ok⟩
  refine ⟨by simp only [PyData.showable, h1], by simp only [PyData.hasDict, h2], by simp only [PyData.depth]; omega, ?_, ?_⟩
  · simp only [PyData.shown]
    have a := listText_len_le (PyData.shownAll ds)
    have b := sum_le fun t ht => (hall t ht).1
    have c := PyData.shownAll_length ds
    rw [c] at a b
    have e : ds.length * (k + 2) = ds.length * k + ds.length * 2 := Nat.mul_add ..
    omega
  · simp only [PyData.shown]
    exact listText_ok fun t ht => (hall t ht).2
theorem join_ok : ∀ {ts : List Str}, (∀ t ∈ ts, PyData.strOk t = true) → PyData.strOk (Str.join ", " ts) = true
  | [], _ => by decide +kernel
  | [t], h => h t List.mem_cons_self
  | t :: u :: ts, h => ok_app (ok_app (h t List.mem_cons_self) (by decide +kernel)) (join_ok fun x hx => h x (List.mem_cons_of_mem _ hx))
theorem sm_tuple {ds : List PyData} {m k : Nat} (h : ∀ d ∈ ds, Sm d m k) : Sm (.tuple ds) (m + 1) (ds.length * (k + 2) + 3) := by
  obtain ⟨h1, h2, h3⟩ := smAll h
  have hall : ∀ t ∈ PyData.shownAll ds, t.length ≤ k ∧ PyData.strOk t = true := by
    rw [shownAll_eq_map]
    intro t ht
    obtain ⟨d, hd, rfl⟩ := List.mem_map.mp ht
    exact ⟨(h d hd).len, (h d hd).ok⟩
  refine ⟨by simp only [PyData.showable, h1], by simp only [PyData.hasDict, h2], by simp only [PyData.depth]; omega, ?_, ?_⟩
  · simp only [PyData.shown]
    have a := tupleText_len_le (PyData.shownAll ds)
    have b := sum_le fun t ht => (hall t ht).1
    have c := PyData.shownAll_length ds
    rw [c] at a b
    have e : ds.length * (k + 2) = ds.length * k + ds.length * 2 := Nat.mul_add ..
    omega
  · simp only [PyData.shown]
    unfold tupleText
    have j := join_ok fun t ht => (hall t ht).2
    have o : PyData.strOk "(" = true := by decide +kernel
    have c1 : PyData.strOk ",)" = true := by decide +kernel
    have c2 : PyData.strOk ")" = true := by decide +kernel
    split
    · exact ok_app (ok_app o j) c1
    · exact ok_app (ok_app o j) c2
theorem Sm.shw {K : PySem.W.Frag} {H : Hp} {v : V} {d : PyData} {m k : Nat} (h : Sm d m k) (hd : Dp K H v d) (hm : m ≤ 50) (hk : k ≤ 1000000) : Shw K H v d := ⟨hd, h.sh, h.nd, Nat.le_trans h.dep hm, Nat.le_trans h.len (Nat.le_trans hk (by decide)), h.ok⟩
theorem dpAll_app {K : PySem.W.Frag} {H : Hp} : ∀ {xs : List V} {ds : List PyData} {ys : List V} {es : List PyData}, DpAll K H xs ds → DpAll K H ys es → DpAll K H (xs ++ ys) (ds ++ es)
  | _, _, _, _, .nil, h => h
  | _, _, _, _, .cons h r, h2 => .cons h (dpAll_app r h2)
theorem dpAll_ms {K : PySem.W.Frag} {H : Hp} : ∀ l : List Str, DpAll K H (ms l) (l.map .str)
  | [] => .nil
  | z :: l => .cons (.str z) (dpAll_ms l)
theorem dpAll_ints {K : PySem.W.Frag} {H : Hp} : ∀ l : List Int, DpAll K H (l.map V.int) (l.map .int)
  | [] => .nil
  | z :: l => .cons (.int z) (dpAll_ints l)
theorem ofString_ok (s : String) : PyData.strOk (Str.ofString s) = true := by
  unfold PyData.strOk
  rw [PySem.Str.ofString_eq_toList, ← Array.all_toList, List.all_eq_true]
  intro x hx
  have hx2 : x ∈ s.toList.map Char.toNat := by simpa using hx
  obtain ⟨c, _, rfl⟩ := List.mem_map.mp hx2
  have h := c.valid
  unfold UInt32.isValidChar Nat.isValidChar at h
  have e : c.toNat = c.val.toNat := rfl
  rw [e]
  exact decide_eq_true (by omega)
theorem sm_int {i : Int} (h1 : -999999999999 ≤ i) (h2 : i ≤ 999999999999) : Sm (.int i) 0 13 := by
  refine ⟨?_, by simp [PyData.hasDict], by simp [PyData.depth], PyData.shown_int_le2 h1 h2, ?_⟩
  · simp only [PyData.showable]
    exact decide_eq_true (Nat.lt_trans (PySem.Flt.log2_lt_of (k := 64) (by decide) (show i.natAbs < 2 ^ 64 by omega)) (by decide))
  · simp only [PyData.shown]
    exact ofString_ok _
theorem sm_non : Sm .none 0 4 := ⟨by decide, by decide, by decide, by decide, by decide +kernel⟩
theorem sm_bl (b : Bool) : Sm (.bool b) 0 5 := by cases b <;> exact ⟨by decide, by decide, by decide, by decide, by decide +kernel⟩
theorem repr_char : ∀ c < 256, ∀ q ∈ [34, 39], (PySem.Builtin.Str.reprChar q c).all (· < 0x110000) = true := by decide +kernel
theorem sm_str {z : Str} (h : ∀ c ∈ z.cps.toList, c < 256) : Sm (.str z) 0 (10 * z.length + 2) := by
  refine ⟨by simp [PyData.showable], by simp [PyData.hasDict], by simp [PyData.depth], by simp only [PyData.shown]; exact StrLaws.reprText_len z fun c hc => Nat.lt_trans (h c hc) (by decide), ?_⟩
  simp only [PyData.shown]
  have hq : reprQuote z ∈ [34, 39] := by
    unfold reprQuote
    split <;> simp
  have hq2 : decide (reprQuote z < 0x110000) = true := by
    rcases (by simpa using hq : reprQuote z = 34 ∨ reprQuote z = 39) with e | e <;> rw [e] <;> rfl
  have key : ∀ (l : List Nat) (acc : Array Nat), (∀ c ∈ l, c < 256) → acc.all (· < 0x110000) = true → (l.foldl (fun out c => out ++ (PySem.Builtin.Str.reprChar (reprQuote z) c).toArray) acc).all (· < 0x110000) = true := by
    intro l
    induction l with
    | nil => intro acc _ h; exact h
    | cons c l ih =>
      intro acc hl ha
      rw [List.foldl_cons]
      refine ih _ (fun x hx => hl x (List.mem_cons_of_mem _ hx)) ?_
      rw [Array.all_append, ha, ← Array.all_toList]
      exact repr_char c (hl c List.mem_cons_self) _ hq
  unfold PyData.strOk reprText
  show ((z.cps.foldl (fun out c => out ++ (PySem.Builtin.Str.reprChar (reprQuote z) c).toArray) #[reprQuote z]).push (reprQuote z)).all _ = true
  rw [Array.all_push, ← Array.foldl_toList, key z.cps.toList _ h (by simpa using hq2), hq2]
  rfl
end Fx
namespace K11
open PySem PySem.Spec PyProof.Rows L2 Fx
def sizes : List (List Int) := [[2, 1, 16, 1, 8, 32768], [3, 2, 24, 2, 12, 8388608], [4, 4, 32, 2, 16, 2147483648]]

def top (i : Nat) : Stmt := PySem.Challenge.pw_fablemill_k11_lexicons.main.body.getD i (.Pass ⟨0, 0, 0, 0⟩)
abbrev s_Version_MU_initU : Stmt := inClass (top 15) 0
abbrev N_Version_MU_initU : List Str := ["self", "version"]
theorem sc_Version_MU_initU : FnScope N_Version_MU_initU ["self", "version"] (defScope s_Version_MU_initU) := ⟨rfl, rfl, rfl, by decide +kernel, rfl, by decide +kernel, by decide +kernel⟩
theorem bn_Version_MU_initU : BindQ "__init__" "Version.__init__" s_Version_MU_initU ["self", "version"] := fun _ _ _ _ _ _ us hl => match us, hl with | [_, _], _ => rfl
abbrev s_Lexicon_MU_initU : Stmt := inClass (top 21) 0
abbrev N_Lexicon_MU_initU : List Str := ["self", "version", "words", "table", "word", "form"]
theorem sc_Lexicon_MU_initU : FnScope N_Lexicon_MU_initU ["self", "version", "words"] (defScope s_Lexicon_MU_initU) := ⟨rfl, rfl, rfl, by decide +kernel, rfl, by decide +kernel, by decide +kernel⟩
theorem bf_Lexicon_MU_initU : BindD "__init__" "Lexicon.__init__" s_Lexicon_MU_initU ["self", "version", "words"] 3 1 := fun _ _ _ _ _ _ _ us its h1 h2 => match us, its, h1, h2 with | [_, _, _], [_], _, _ => ⟨_, rfl, rfl⟩
theorem bd_Lexicon_MU_initU : BindD "__init__" "Lexicon.__init__" s_Lexicon_MU_initU ["self", "version", "words"] 2 0 := fun _ _ _ _ _ _ _ us its h1 h2 => match us, its, h1, h2 with | [_, _], [_], _, _ => ⟨_, rfl, rfl⟩
abbrev s_Lexicon_MU_getitemU : Stmt := inClass (top 21) 1
abbrev N_Lexicon_MU_getitemU : List Str := ["self", "k"]
theorem sc_Lexicon_MU_getitemU : FnScope N_Lexicon_MU_getitemU ["self", "k"] (defScope s_Lexicon_MU_getitemU) := ⟨rfl, rfl, rfl, by decide +kernel, rfl, by decide +kernel, by decide +kernel⟩
theorem bn_Lexicon_MU_getitemU : BindQ "__getitem__" "Lexicon.__getitem__" s_Lexicon_MU_getitemU ["self", "k"] := fun _ _ _ _ _ _ us hl => match us, hl with | [_, _], _ => rfl
abbrev s_Lexicon_MU_iterU : Stmt := inClass (top 21) 2
abbrev N_Lexicon_MU_iterU : List Str := ["self"]
theorem sc_Lexicon_MU_iterU : FnScope N_Lexicon_MU_iterU ["self"] (defScope s_Lexicon_MU_iterU) := ⟨rfl, rfl, rfl, by decide +kernel, rfl, by decide +kernel, by decide +kernel⟩
theorem bn_Lexicon_MU_iterU : BindQ "__iter__" "Lexicon.__iter__" s_Lexicon_MU_iterU ["self"] := fun _ _ _ _ _ _ us hl => match us, hl with | [_], _ => rfl
abbrev s_Lexicon_MU_lenU : Stmt := inClass (top 21) 3
abbrev N_Lexicon_MU_lenU : List Str := ["self"]
theorem sc_Lexicon_MU_lenU : FnScope N_Lexicon_MU_lenU ["self"] (defScope s_Lexicon_MU_lenU) := ⟨rfl, rfl, rfl, by decide +kernel, rfl, by decide +kernel, by decide +kernel⟩
theorem bn_Lexicon_MU_lenU : BindQ "__len__" "Lexicon.__len__" s_Lexicon_MU_lenU ["self"] := fun _ _ _ _ _ _ us hl => match us, hl with | [_], _ => rfl
abbrev s_Lexicon_MU_containsU : Stmt := inClass (top 21) 4
abbrev N_Lexicon_MU_containsU : List Str := ["self", "word"]
theorem sc_Lexicon_MU_containsU : FnScope N_Lexicon_MU_containsU ["self", "word"] (defScope s_Lexicon_MU_containsU) := ⟨rfl, rfl, rfl, by decide +kernel, rfl, by decide +kernel, by decide +kernel⟩
theorem bn_Lexicon_MU_containsU : BindQ "__contains__" "Lexicon.__contains__" s_Lexicon_MU_containsU ["self", "word"] := fun _ _ _ _ _ _ us hl => match us, hl with | [_, _], _ => rfl
abbrev s_Lexicon_MU_eqU : Stmt := inClass (top 21) 5
abbrev N_Lexicon_MU_eqU : List Str := ["self", "other"]
theorem sc_Lexicon_MU_eqU : FnScope N_Lexicon_MU_eqU ["self", "other"] (defScope s_Lexicon_MU_eqU) := ⟨rfl, rfl, rfl, by decide +kernel, rfl, by decide +kernel, by decide +kernel⟩
theorem bn_Lexicon_MU_eqU : BindQ "__eq__" "Lexicon.__eq__" s_Lexicon_MU_eqU ["self", "other"] := fun _ _ _ _ _ _ us hl => match us, hl with | [_, _], _ => rfl
abbrev s_Lexicon_MU_andU : Stmt := inClass (top 21) 6
abbrev N_Lexicon_MU_andU : List Str := ["self", "other", "both", "k"]
theorem sc_Lexicon_MU_andU : FnScope N_Lexicon_MU_andU ["self", "other"] (defScope s_Lexicon_MU_andU) := ⟨rfl, rfl, rfl, by decide +kernel, rfl, by decide +kernel, by decide +kernel⟩
theorem bn_Lexicon_MU_andU : BindQ "__and__" "Lexicon.__and__" s_Lexicon_MU_andU ["self", "other"] := fun _ _ _ _ _ _ us hl => match us, hl with | [_, _], _ => rfl
abbrev s_Lexicon_MU_orU : Stmt := inClass (top 21) 7
abbrev N_Lexicon_MU_orU : List Str := ["self", "other"]
theorem sc_Lexicon_MU_orU : FnScope N_Lexicon_MU_orU ["self", "other"] (defScope s_Lexicon_MU_orU) := ⟨rfl, rfl, rfl, by decide +kernel, rfl, by decide +kernel, by decide +kernel⟩
theorem bn_Lexicon_MU_orU : BindQ "__or__" "Lexicon.__or__" s_Lexicon_MU_orU ["self", "other"] := fun _ _ _ _ _ _ us hl => match us, hl with | [_, _], _ => rfl
abbrev s_Lexicon_M_find : Stmt := inClass (top 21) 8
abbrev N_Lexicon_M_find : List Str := ["self", "word", "form"]
theorem sc_Lexicon_M_find : FnScope N_Lexicon_M_find ["self", "word"] (defScope s_Lexicon_M_find) := ⟨rfl, rfl, rfl, by decide +kernel, rfl, by decide +kernel, by decide +kernel⟩
theorem bn_Lexicon_M_find : BindQ "find" "Lexicon.find" s_Lexicon_M_find ["self", "word"] := fun _ _ _ _ _ _ us hl => match us, hl with | [_, _], _ => rfl
abbrev s__wall : Stmt := top 0
abbrev N__wall : List Str := ["k"]
theorem sc__wall : FnScope N__wall ["k"] (defScope s__wall) := ⟨rfl, rfl, rfl, by decide +kernel, rfl, by decide +kernel, by decide +kernel⟩
theorem bn__wall : BindP "_wall" s__wall ["k"] := fun _ _ _ _ _ _ us hl => match us, hl with | [_], _ => rfl
abbrev s_codes : Stmt := top 10
abbrev N_codes : List Str := ["sign", "place"]
theorem sc_codes : FnScope N_codes ["sign"] (defScope s_codes) := ⟨rfl, rfl, rfl, by decide +kernel, rfl, by decide +kernel, by decide +kernel⟩
theorem bn_codes : BindP "codes" s_codes ["sign"] := fun _ _ _ _ _ _ us hl => match us, hl with | [_], _ => rfl
abbrev s_plain_codes : Stmt := top 11
abbrev N_plain_codes : List Str := ["text", "row", "sign"]
theorem sc_plain_codes : FnScope N_plain_codes ["text"] (defScope s_plain_codes) := ⟨rfl, rfl, rfl, by decide +kernel, rfl, by decide +kernel, by decide +kernel⟩
theorem bn_plain_codes : BindP "plain_codes" s_plain_codes ["text"] := fun _ _ _ _ _ _ us hl => match us, hl with | [_], _ => rfl
abbrev s_is_integer : Stmt := top 14
abbrev N_is_integer : List Str := ["thing", "low", "high"]
theorem sc_is_integer : FnScope N_is_integer ["thing", "low", "high"] (defScope s_is_integer) := ⟨rfl, rfl, rfl, by decide +kernel, rfl, by decide +kernel, by decide +kernel⟩
theorem bn_is_integer : BindP "is_integer" s_is_integer ["thing", "low", "high"] := fun _ _ _ _ _ _ us hl => match us, hl with | [_, _, _], _ => rfl
abbrev s_is_word : Stmt := top 19
abbrev N_is_word : List Str := ["thing", "sign"]
theorem sc_is_word : FnScope N_is_word ["thing"] (defScope s_is_word) := ⟨rfl, rfl, rfl, by decide +kernel, rfl, by decide +kernel, by decide +kernel⟩
theorem bn_is_word : BindP "is_word" s_is_word ["thing"] := fun _ _ _ _ _ _ us hl => match us, hl with | [_], _ => rfl
abbrev s_cut_form : Stmt := top 20
abbrev N_cut_form : List Str := ["version", "word", "cut", "row", "code"]
theorem sc_cut_form : FnScope N_cut_form ["version", "word"] (defScope s_cut_form) := ⟨rfl, rfl, rfl, by decide +kernel, rfl, by decide +kernel, by decide +kernel⟩
theorem bn_cut_form : BindP "cut_form" s_cut_form ["version", "word"] := fun _ _ _ _ _ _ us hl => match us, hl with | [_, _], _ => rfl
abbrev s__law_bag : Stmt := top 23
abbrev N__law_bag : List Str := ["_law_script", "_law_mixed", "_law_cell"]
theorem sc__law_bag : FnScope N__law_bag ["_law_script"] (defScope s__law_bag) := ⟨rfl, rfl, rfl, by decide +kernel, rfl, by decide +kernel, by decide +kernel⟩
theorem bn__law_bag : BindP "_law_bag" s__law_bag ["_law_script"] := fun _ _ _ _ _ _ us hl => match us, hl with | [_], _ => rfl
abbrev s__law_pick : Stmt := top 24
abbrev N__law_pick : List Str := ["_law_bag_here", "_law_many", "_law_number", "_law_cell"]
theorem sc__law_pick : FnScope N__law_pick ["_law_bag_here", "_law_many"] (defScope s__law_pick) := ⟨rfl, rfl, rfl, by decide +kernel, rfl, by decide +kernel, by decide +kernel⟩
theorem bn__law_pick : BindP "_law_pick" s__law_pick ["_law_bag_here", "_law_many"] := fun _ _ _ _ _ _ us hl => match us, hl with | [_, _], _ => rfl
abbrev s__law_integer : Stmt := top 25
abbrev N__law_integer : List Str := ["_law_thing"]
theorem sc__law_integer : FnScope N__law_integer ["_law_thing"] (defScope s__law_integer) := ⟨rfl, rfl, rfl, by decide +kernel, rfl, by decide +kernel, by decide +kernel⟩
theorem bn__law_integer : BindP "_law_integer" s__law_integer ["_law_thing"] := fun _ _ _ _ _ _ us hl => match us, hl with | [_], _ => rfl
abbrev s__law_codes : Stmt := top 26
abbrev N__law_codes : List Str := ["_law_sign", "_law_rows", "_law_k", "_law_place"]
theorem sc__law_codes : FnScope N__law_codes ["_law_sign"] (defScope s__law_codes) := ⟨rfl, rfl, rfl, by decide +kernel, rfl, by decide +kernel, by decide +kernel⟩
theorem bn__law_codes : BindP "_law_codes" s__law_codes ["_law_sign"] := fun _ _ _ _ _ _ us hl => match us, hl with | [_], _ => rfl
abbrev s__law_cut : Stmt := top 27
abbrev N__law_cut : List Str := ["_law_version", "_law_word", "_law_row_here", "_law_sign", "_law_one"]
theorem sc__law_cut : FnScope N__law_cut ["_law_version", "_law_word"] (defScope s__law_cut) := ⟨rfl, rfl, rfl, by decide +kernel, rfl, by decide +kernel, by decide +kernel⟩
theorem bn__law_cut : BindP "_law_cut" s__law_cut ["_law_version", "_law_word"] := fun _ _ _ _ _ _ us hl => match us, hl with | [_, _], _ => rfl
abbrev s__law_distinct : Stmt := top 28
abbrev N__law_distinct : List Str := ["_law_words", "_law_found", "_law_word"]
theorem sc__law_distinct : FnScope N__law_distinct ["_law_words"] (defScope s__law_distinct) := ⟨rfl, rfl, rfl, by decide +kernel, rfl, by decide +kernel, by decide +kernel⟩
theorem bn__law_distinct : BindP "_law_distinct" s__law_distinct ["_law_words"] := fun _ _ _ _ _ _ us hl => match us, hl with | [_], _ => rfl
abbrev s__law_typed : Stmt := top 29
abbrev N__law_typed : List Str := ["_law_bag_here", "_law_pool", "_law_signs", "_law_at", "_law_size", "_law_word", "_law_way", "_law_stem", "_law_step"]
theorem sc__law_typed : FnScope N__law_typed ["_law_bag_here", "_law_pool"] (defScope s__law_typed) := ⟨rfl, rfl, rfl, by decide +kernel, rfl, by decide +kernel, by decide +kernel⟩
theorem bn__law_typed : BindP "_law_typed" s__law_typed ["_law_bag_here", "_law_pool"] := fun _ _ _ _ _ _ us hl => match us, hl with | [_, _], _ => rfl
abbrev s__law_row : Stmt := top 30
abbrev N__law_row : List Str := ["_law_bag_here", "_law_pool", "_law_row_here", "_law_many", "_law_step"]
theorem sc__law_row : FnScope N__law_row ["_law_bag_here", "_law_pool"] (defScope s__law_row) := ⟨rfl, rfl, rfl, by decide +kernel, rfl, by decide +kernel, by decide +kernel⟩
theorem bn__law_row : BindP "_law_row" s__law_row ["_law_bag_here", "_law_pool"] := fun _ _ _ _ _ _ us hl => match us, hl with | [_, _], _ => rfl
abbrev s__law_odd : Stmt := top 31
abbrev N__law_odd : List Str := ["_law_bag_here", "_law_odd_here"]
theorem sc__law_odd : FnScope N__law_odd ["_law_bag_here"] (defScope s__law_odd) := ⟨rfl, rfl, rfl, by decide +kernel, rfl, by decide +kernel, by decide +kernel⟩
theorem bn__law_odd : BindP "_law_odd" s__law_odd ["_law_bag_here"] := fun _ _ _ _ _ _ us hl => match us, hl with | [_], _ => rfl
abbrev s__law_lexicon_made : Stmt := top 32
abbrev N__law_lexicon_made : List Str := ["_law_number", "_law_words", "_law_lexicon", "e"]
theorem sc__law_lexicon_made : FnScope N__law_lexicon_made ["_law_number", "_law_words"] (defScope s__law_lexicon_made) := ⟨rfl, rfl, rfl, by decide +kernel, rfl, by decide +kernel, by decide +kernel⟩
theorem bn__law_lexicon_made : BindP "_law_lexicon_made" s__law_lexicon_made ["_law_number", "_law_words"] := fun _ _ _ _ _ _ us hl => match us, hl with | [_, _], _ => rfl
abbrev s__law_refusals : Stmt := top 33
abbrev N__law_refusals : List Str := ["_law_bag_here", "_law_number", "_law_row_here", "_law_odd_here", "_law_at", "_law_bad", "_law_strange", "_law_kept", "_law_words"]
theorem sc__law_refusals : FnScope N__law_refusals ["_law_bag_here", "_law_number", "_law_row_here"] (defScope s__law_refusals) := ⟨rfl, rfl, rfl, by decide +kernel, rfl, by decide +kernel, by decide +kernel⟩
theorem bn__law_refusals : BindP "_law_refusals" s__law_refusals ["_law_bag_here", "_law_number", "_law_row_here"] := fun _ _ _ _ _ _ us hl => match us, hl with | [_, _, _], _ => rfl
abbrev s__law_is : Stmt := top 34
abbrev N__law_is : List Str := ["_law_lexicon", "_law_forms_here", "_law_k"]
theorem sc__law_is : FnScope N__law_is ["_law_lexicon", "_law_forms_here"] (defScope s__law_is) := ⟨rfl, rfl, rfl, by decide +kernel, rfl, by decide +kernel, by decide +kernel⟩
theorem bn__law_is : BindP "_law_is" s__law_is ["_law_lexicon", "_law_forms_here"] := fun _ _ _ _ _ _ us hl => match us, hl with | [_, _], _ => rfl
abbrev s__law_finds : Stmt := top 35
abbrev N__law_finds : List Str := ["_law_lexicon", "_law_forms_here", "_law_number", "_law_word", "_law_form", "_law_actual"]
theorem sc__law_finds : FnScope N__law_finds ["_law_lexicon", "_law_forms_here", "_law_number", "_law_word"] (defScope s__law_finds) := ⟨rfl, rfl, rfl, by decide +kernel, rfl, by decide +kernel, by decide +kernel⟩
theorem bn__law_finds : BindP "_law_finds" s__law_finds ["_law_lexicon", "_law_forms_here", "_law_number", "_law_word"] := fun _ _ _ _ _ _ us hl => match us, hl with | [_, _, _, _], _ => rfl
abbrev s__law_joined : Stmt := top 36
abbrev N__law_joined : List Str := ["_law_lexicons", "_law_forms_here", "_law_number", "_law_rows", "_law_first", "_law_second", "_law_either", "_law_both", "_law_whole", "_law_shared", "_law_word", "_law_form"]
theorem sc__law_joined : FnScope N__law_joined ["_law_lexicons", "_law_forms_here", "_law_number", "_law_rows"] (defScope s__law_joined) := ⟨rfl, rfl, rfl, by decide +kernel, rfl, by decide +kernel, by decide +kernel⟩
theorem bn__law_joined : BindP "_law_joined" s__law_joined ["_law_lexicons", "_law_forms_here", "_law_number", "_law_rows"] := fun _ _ _ _ _ _ us hl => match us, hl with | [_, _, _, _], _ => rfl
abbrev s__law_forms : Stmt := top 37
abbrev N__law_forms : List Str := ["_law_number", "_law_row_here", "_law_word"]
theorem sc__law_forms : FnScope N__law_forms ["_law_number", "_law_row_here"] (defScope s__law_forms) := ⟨rfl, rfl, rfl, by decide +kernel, rfl, by decide +kernel, by decide +kernel⟩
theorem bn__law_forms : BindP "_law_forms" s__law_forms ["_law_number", "_law_row_here"] := fun _ _ _ _ _ _ us hl => match us, hl with | [_, _], _ => rfl
abbrev s__law_built : Stmt := top 38
abbrev N__law_built : List Str := ["_law_number", "_law_row_here", "_law_way", "_law_given", "_law_lexicon"]
theorem sc__law_built : FnScope N__law_built ["_law_number", "_law_row_here", "_law_way"] (defScope s__law_built) := ⟨rfl, rfl, rfl, by decide +kernel, rfl, by decide +kernel, by decide +kernel⟩
theorem bn__law_built : BindP "_law_built" s__law_built ["_law_number", "_law_row_here", "_law_way"] := fun _ _ _ _ _ _ us hl => match us, hl with | [_, _, _], _ => rfl
abbrev s__law_all_found : Stmt := top 39
abbrev N__law_all_found : List Str := ["_law_bag_here", "_law_lexicons", "_law_forms_here", "_law_numbers", "_law_asked", "_law_word", "_law_thing"]
theorem sc__law_all_found : FnScope N__law_all_found ["_law_bag_here", "_law_lexicons", "_law_forms_here", "_law_numbers", "_law_asked"] (defScope s__law_all_found) := ⟨rfl, rfl, rfl, by decide +kernel, rfl, by decide +kernel, by decide +kernel⟩
theorem bn__law_all_found : BindP "_law_all_found" s__law_all_found ["_law_bag_here", "_law_lexicons", "_law_forms_here", "_law_numbers", "_law_asked"] := fun _ _ _ _ _ _ us hl => match us, hl with | [_, _, _, _, _], _ => rfl
abbrev s_law : Stmt := top 40
abbrev N_law : List Str := ["_law_script", "_law_bag_here", "_law_numbers", "_law_rows", "_law_lexicons", "_law_forms_here", "_law_asked"]
theorem sc_law : FnScope N_law ["_law_script"] (defScope s_law) := ⟨rfl, rfl, rfl, by decide +kernel, rfl, by decide +kernel, by decide +kernel⟩
theorem bn_law : BindP "law" s_law ["_law_script"] := fun _ _ _ _ _ _ us hl => match us, hl with | [_], _ => rfl
structure Tx (P : Program) (K : PySem.W.Frag) (mg : Str → Option Value) : Prop where
  b_ValueError : mg "ValueError" = none
  b_all : mg "all" = none
  b_bool : mg "bool" = none
  b_int : mg "int" = none
  b_isinstance : mg "isinstance" = none
  b_iter : mg "iter" = none
  b_len : mg "len" = none
  b_list : mg "list" = none
  b_ord : mg "ord" = none
  b_range : mg "range" = none
  b_repr : mg "repr" = none
  b_sorted : mg "sorted" = none
  b_str : mg "str" = none
  b_tuple : mg "tuple" = none
  b_super : mg "super" = none
  c_HEX : Cst mg "HEX" (.str "0123456789abcdef")
  c_ROW1 : Cst mg "ROW1" (.str " etaonisrhld")
  c_ROW2 : Cst mg "ROW2" (.str "cumfpgwybvkxjqz.")
  c_ROW3 : Cst mg "ROW3" (.str "0123456789\n,'-!?")
  c_SIZES : Cst mg "SIZES" (.ref (He.ga K "SIZES"))
  c_WORD_SIGNS : Cst mg "WORD_SIGNS" (.str "abcdefghijklmnopqrstuvwxyz0123456789'-")
  g_BadText : mg "BadText" = some (.ref (He.ga K "BadText"))
  x_BadText : XC K P "BadText" "place" (He.ga K "BadText")
  e_BadText : ExcC K (He.ga K "BadText")
  g_BadVersion : mg "BadVersion" = some (.ref (He.ga K "BadVersion"))
  x_BadVersion : XC K P "BadVersion" "version" (He.ga K "BadVersion")
  e_BadVersion : ExcC K (He.ga K "BadVersion")
  g_BadWord : mg "BadWord" = some (.ref (He.ga K "BadWord"))
  x_BadWord : XC K P "BadWord" "word" (He.ga K "BadWord")
  e_BadWord : ExcC K (He.ga K "BadWord")
  g_FableError : mg "FableError" = some (.ref (He.ga K "FableError"))
  g_Lexicon : mg "Lexicon" = some (.ref (He.ga K "Lexicon"))
  g_Version : mg "Version" = some (.ref (He.ga K "Version"))
  cl_Lexicon : Cls K (He.ga K "Lexicon")
  cl_Version : Cls K (He.ga K "Version")
  n_Lexicon_forms : NoAttr K (He.ga K "Lexicon") "forms"
  n_Lexicon_version : NoAttr K (He.ga K "Lexicon") "version"
  n_Lexicon_words : NoAttr K (He.ga K "Lexicon") "words"
  n_Version_cut : NoAttr K (He.ga K "Version") "cut"
  n_Version_half : NoAttr K (He.ga K "Version") "half"
  n_Version_link : NoAttr K (He.ga K "Version") "link"
  n_Version_marks : NoAttr K (He.ga K "Version") "marks"
  n_Version_number : NoAttr K (He.ga K "Version") "number"
  n_Version_scale : NoAttr K (He.ga K "Version") "scale"
  n_Version_width : NoAttr K (He.ga K "Version") "width"
  ix_Lexicon : ixB K (He.ga K "Lexicon") = true
  sf_Lexicon : PySem.W.selfFirst K (He.ga K "Lexicon") = true
  ne_Lexicon : neB K (He.ga K "Lexicon") = true
  k_BadVersion_VE : PySem.W.kitOne K (.ref (He.ga K "BadVersion")) (.type "ValueError") = some true
  k_BadVersion_BadText : PySem.W.kitOne K (.ref (He.ga K "BadVersion")) (.ref (He.ga K "BadText")) = some false
  k_BadVersion_BadVersion : PySem.W.kitOne K (.ref (He.ga K "BadVersion")) (.ref (He.ga K "BadVersion")) = some true
  k_BadVersion_BadWord : PySem.W.kitOne K (.ref (He.ga K "BadVersion")) (.ref (He.ga K "BadWord")) = some false
  k_BadWord_VE : PySem.W.kitOne K (.ref (He.ga K "BadWord")) (.type "ValueError") = some true
  k_BadWord_BadText : PySem.W.kitOne K (.ref (He.ga K "BadWord")) (.ref (He.ga K "BadText")) = some false
  k_BadWord_BadVersion : PySem.W.kitOne K (.ref (He.ga K "BadWord")) (.ref (He.ga K "BadVersion")) = some false
  k_BadWord_BadWord : PySem.W.kitOne K (.ref (He.ga K "BadWord")) (.ref (He.ga K "BadWord")) = some true
  m_BadVersion : PySem.W.exmOne K (.ref (He.ga K "BadVersion")) (.ref (He.ga K "FableError")) = some true
  m_BadWord : PySem.W.exmOne K (.ref (He.ga K "BadWord")) (.ref (He.ga K "FableError")) = some true
  t_SIZES : tupsB K "SIZES" sizes = true
  i_Lexicon : insB K (He.ga K "Lexicon") = true
  t_dfl : tupI K (.ref (He.dflAt ("Lexicon", some "__init__") 0 K)) [] = true
theorem new_s {H H' : Hp} {p : Addr} {o : HO} (n : H p = none) (e : upd H p o = H') : Same H H' := e ▸ same_new n
theorem new_h {H H' : Hp} {p : Addr} {o : HO} (e : upd H p o = H') : H' p = some o := e ▸ upd_same
theorem tyL {K : PySem.W.Frag} {H : Hp} {p : Addr} {xs : List V} (h : H p = some (.lst xs)) : tyV K "list" (.ref p) H := .inl ⟨rfl, xs, .inl (.inl h)⟩
theorem Same.put {H H1 : Hp} {D : Addr} {o : HO} (x : Same H H1) (hD : H D = none) : Same H (upd H1 D o) := fun a o' h => by
  rw [upd_ne (ne_of_none h hD)]
  exact x a o' h
theorem none_ne {H : Hp} {a b : Addr} {o : HO} (h : H a = some o) (hb : H b = none) : a ≠ b := ne_of_none h hb
theorem cutV_lo (xs : List V) (n : Nat) : cutV xs (some (n : Int)) none = xs.drop n := by
  unfold cutV
  rw [HT.sIx_nat, HT.sIx_none]
  by_cases h : n ≤ xs.length
  · rw [Nat.min_eq_left h, List.take_of_length_le (by rw [List.length_drop]; omega)]
  · rw [Nat.min_eq_right (by omega), List.drop_of_length_le (by omega : xs.length ≤ n), List.drop_length]
    simp
theorem cutV_hi (xs : List V) (n : Nat) : cutV xs none (some (n : Int)) = xs.take n := by
  unfold cutV
  rw [HT.sIx_nat, HT.sIx_none, List.drop_zero, Nat.sub_zero]
  by_cases h : n ≤ xs.length
  · rw [Nat.min_eq_left h]
  · rw [Nat.min_eq_right (by omega), List.take_of_length_le (by omega : xs.length ≤ n), List.take_length]
theorem cutV_two (xs : List V) (a b : Nat) : cutV xs (some (a : Int)) (some (b : Int)) = (xs.drop a).take (b - a) := by
  unfold cutV
  rw [HT.sIx_nat, HT.sIx_nat]
  by_cases h : a ≤ xs.length
  · rw [Nat.min_eq_left h]
    by_cases h2 : b ≤ xs.length
    · rw [Nat.min_eq_left h2]
    · rw [Nat.min_eq_right (by omega), List.take_of_length_le (by rw [List.length_drop]; omega), List.take_of_length_le (by rw [List.length_drop]; omega)]
  · rw [Nat.min_eq_right (by omega : xs.length ≤ a), List.drop_of_length_le (by omega : xs.length ≤ a), List.drop_length]
    simp
theorem atI_ok {xs : List Int} {a : Int} (h0 : 0 ≤ a) (h : a < ((xs.map V.int).length : Nat)) : ∃ n, atI (xs.map V.int) a = some (.int n) := by
  rw [List.length_map] at h
  have e : ixN (xs.map V.int).length a = some a.toNat := by
    unfold ixN
    rw [if_pos h0, if_pos (by rw [List.length_map]; exact h)]
  unfold atI
  rw [e]
  have hl : a.toNat < xs.length := by omega
  exact ⟨xs[a.toNat], by simp [hl]⟩
theorem atI_get {α : Type} {xs : List α} {i : Nat} {v : α} (h : xs[i]? = some v) : atI xs (i : Int) = some v := by
  have hl := (List.getElem?_eq_some_iff.mp h).1
  have e : ixN xs.length (i : Int) = some i := by
    unfold ixN
    rw [if_pos (by omega), if_pos (by omega)]
    rfl
  unfold atI
  rw [e]
  exact h
theorem ixN_nat {n i : Nat} (h : i < n) : ixN n (i : Int) = some i := by
  unfold ixN
  rw [if_pos (by omega), if_pos (by omega)]
  rfl
theorem mapI_get {ns : List Int} {i : Nat} (h : i < ns.length) : (ns.map V.int)[i]? = some (.int ns[i]) := by simp [h]
theorem mapI_some {ns : List Int} {i : Nat} {x : V} (h : (ns.map V.int)[i]? = some x) : ∃ n, x = V.int n ∧ ns[i]? = some n := by
  rw [List.getElem?_map] at h
  cases e : ns[i]? with
  | none => rw [e] at h; cases h
  | some z => rw [e] at h; exact ⟨z, (Option.some.inj h).symm, rfl⟩
theorem atI_mem {α : Type} {xs : List α} {a : Int} (h0 : 0 ≤ a) (h : a < (xs.length : Nat)) : ∃ c, atI xs a = some c ∧ c ∈ xs := by
  have e : ixN xs.length a = some a.toNat := by
    unfold ixN
    rw [if_pos h0, if_pos h]
  unfold atI
  rw [e]
  have hl : a.toNat < xs.length := by omega
  exact ⟨xs[a.toNat], by simp [hl], List.getElem_mem hl⟩
abbrev mi (l : List Int) : List V := l.map V.int
theorem mi_app (a b : List Int) : mi (a ++ b) = mi a ++ mi b := List.map_append
theorem mi_len (a : List Int) : (mi a).length = a.length := List.length_map ..
theorem mi_take (a : List Int) (n : Nat) : (mi a).take n = mi (a.take n) := by unfold mi; rw [List.map_take]
theorem mi_drop (a : List Int) (n : Nat) : (mi a).drop n = mi (a.drop n) := by unfold mi; rw [List.map_drop]
def rowA : Str := " etaonisrhld"
def rowB : Str := "cumfpgwybvkxjqz."
def rowC : Str := "0123456789\n,'-!?"
abbrev S1 (c : Nat) : Str := ⟨#[c]⟩
/-- the half bytes of a sign -/
def codeL (c : Nat) : List Int :=
  if 0 ≤ Txt.find rowA (S1 c) then [Txt.find rowA (S1 c)]
  else if 0 ≤ Txt.find rowB (S1 c) then [12, Txt.find rowB (S1 c)]
  else if 0 ≤ Txt.find rowC (S1 c) then [13, Txt.find rowC (S1 c)]
  else [15, (c : Int) / 16, (c : Int) % 16]
def spCodes : Sp := fun vs H Q _ => ∃ c : Nat, vs = [.str (S1 c)] ∧ ∀ (p : Addr) (H' : Hp), Same H H' → H p = none → H' p = some (.tup ((codeL c).map V.int)) → Q (.ref p) H'
def spLCodes : Sp := fun vs H Q _ => ∃ c : Nat, vs = [.str (S1 c)] ∧ ∀ (p : Addr) (H' : Hp), Same H H' → H p = none → H' p = some (.lst ((codeL c).map V.int)) → Q (.ref p) H'
theorem foldl_app {α : Type} : ∀ (n : Nat) (x acc : Array α), ((List.replicate n x).foldl (· ++ ·) acc).toList = acc.toList ++ (List.replicate n x.toList).flatten
  | 0, x, acc => by simp
  | n + 1, x, acc => by
    rw [List.replicate_succ, List.foldl_cons, foldl_app n x (acc ++ x), List.replicate_succ, List.flatten_cons, Array.toList_append, List.append_assoc]
theorem mul_list (z : Str) (n : Int) (h0 : 0 ≤ n) : (Txt.mul z n).cps.toList = (List.replicate n.toNat z.cps.toList).flatten := by
  unfold Txt.mul
  by_cases h1 : n < 1
  · have e : n.toNat = 0 := by omega
    rw [if_pos h1, e]
    rfl
  · rw [if_neg h1]
    by_cases h2 : (n == 1 || z.length == 0) = true
    · rw [if_pos h2]
      simp only [Bool.or_eq_true, beq_iff_eq] at h2
      rcases h2 with h2 | h2
      · subst h2
        simp
      · have e : z.cps.toList = [] := List.eq_nil_of_length_eq_zero (by rw [Array.length_toList]; exact h2)
        rw [e]
        simp
    · rw [if_neg h2, foldl_app]
      simp
theorem mul_one (c : Nat) (k : Int) (k0 : 0 ≤ k) : (Txt.mul (S1 c) k).length = k.toNat ∧ (∀ x ∈ (Txt.mul (S1 c) k).cps.toList, x = c) := by
  have e := mul_list (S1 c) k k0
  have e2 : (List.replicate k.toNat [c]).flatten = List.replicate k.toNat c := by
    generalize k.toNat = n
    induction n with
    | zero => rfl
    | succ n ih => rw [List.replicate_succ, List.flatten_cons, ih, List.replicate_succ]; rfl
  have e3 : (Txt.mul (S1 c) k).cps.toList = List.replicate k.toNat c := e.trans e2
  constructor
  · show (Txt.mul (S1 c) k).cps.size = _
    rw [← Array.length_toList, e3, List.length_replicate]
  · rw [e3]
    intro x hx
    exact (List.mem_replicate.mp hx).2
theorem len_app (a b : Str) : (a ++ b).length = a.length + b.length := by
  show (a.cps ++ b.cps).size = _
  rw [Array.size_append]
  rfl
theorem list_app (a b : Str) : (a ++ b).cps.toList = a.cps.toList ++ b.cps.toList := Array.toList_append
theorem cut_sub {z : Str} {lo hi : Option Int} {c : Nat} (h : c ∈ (cutS z lo hi).cps.toList) : c ∈ z.cps.toList := by
  unfold cutS at h
  exact List.mem_of_mem_drop (List.mem_of_mem_take (by simpa using h))
theorem sIx_nat' {n d : Nat} {x : Int} (h0 : 0 ≤ x) : HT.sIx n d (some x) = min x.toNat n := by
  have e : x = (x.toNat : Int) := by omega
  rw [e]
  exact HT.sIx_nat n d x.toNat
theorem cutS_len (z : Str) (lo hi : Option Int) : (cutS z lo hi).length = min (HT.sIx z.length z.length hi - HT.sIx z.length 0 lo) (z.length - HT.sIx z.length 0 lo) := by
  show (cutS z lo hi).cps.size = _
  unfold cutS
  rw [List.size_toArray, List.length_take, List.length_drop, Array.length_toList]
  rfl
theorem cut_hi (z : Str) (x : Int) (h0 : 0 ≤ x) : (cutS z none (some x)).length ≤ x.toNat := by
  rw [cutS_len, sIx_nat' h0, HT.sIx_none]
  omega
theorem cut_two (z : Str) (x : Int) (h0 : 0 ≤ x) (h1 : x ≤ z.length) : (cutS z none (some x)).length + (cutS z (some x) none).length = z.length := by
  rw [cutS_len, cutS_len, sIx_nat' h0, sIx_nat' h0, HT.sIx_none, HT.sIx_none]
  omega
def wordSigns : Str := "abcdefghijklmnopqrstuvwxyz0123456789'-"
def isW (z : Str) : Bool := decide (z = ",") || (decide (1 ≤ z.length) && decide (z.length ≤ 20) && z.cps.toList.all fun c => decide (c ∈ wordSigns.cps.toList))
def GoodV (v : V) (n : Int) : Prop := v = .int n ∧ 1 ≤ n ∧ n ≤ 3
def BadV (H : Hp) (v : V) : Prop := (∃ t, tyv H v = some t ∧ kitB t "int" = some false) ∨ (∃ b, v = .bl b) ∨ ∃ i, v = .int i ∧ ¬ (1 ≤ i ∧ i ≤ 3)
def GoodW (w : V) (z : Str) : Prop := w = .str z ∧ z.length ≤ 1000 ∧ isW z = true
def BadW (H : Hp) (w : V) : Prop := (∃ z, w = .str z ∧ z.length ≤ 1000 ∧ isW z = false) ∨ ∃ t, tyv H w = some t ∧ kitB t "str" = some false
theorem codeL_len (c : Nat) : (codeL c).length ≤ 3 := by
  unfold codeL
  split
  · show 1 ≤ 3
    decide
  · split
    · show 2 ≤ 3
      decide
    · split
      · show 2 ≤ 3
        decide
      · show 3 ≤ 3
        decide
theorem flat_len : ∀ l : List Nat, ((l.map codeL).flatten).length ≤ 3 * l.length
  | [] => Nat.le_refl _
  | c :: l => by
    rw [List.map_cons, List.flatten_cons, List.length_append, List.length_cons]
    have := flat_len l
    have := codeL_len c
    omega
theorem tyv_same {H H' : Hp} {v : V} {t : String} (s : Same H H') (h : tyv H v = some t) : tyv H' v = some t := by
  cases v with
  | ref a =>
    unfold tyv at h ⊢
    dsimp only at h ⊢
    cases e : H a with
    | none => rw [e] at h; cases h
    | some o => rw [e] at h; rw [s a o e]; exact h
  | _ => exact h
theorem BadV.same {H H' : Hp} {v : V} (s : Same H H') (h : BadV H v) : BadV H' v := by
  rcases h with ⟨t, h1, h2⟩ | h | h
  · exact .inl ⟨t, tyv_same s h1, h2⟩
  · exact .inr (.inl h)
  · exact .inr (.inr h)
theorem BadW.same {H H' : Hp} {v : V} (s : Same H H') (h : BadW H v) : BadW H' v := by
  rcases h with h | ⟨t, h1, h2⟩
  · exact .inl h
  · exact .inr ⟨t, tyv_same s h1, h2⟩
theorem tyv_kp {b : Addr} {H H' : Hp} {v : V} {t : String} (B : Bag H b) (k : Kp b H H') (h : tyv H v = some t) : tyv H' v = some t := by
  cases v with
  | ref a =>
    by_cases e : a = b
    · obtain ⟨kvs, h1⟩ := B.some
      obtain ⟨kvs', h2⟩ := k.bag.some
      unfold tyv at h ⊢
      dsimp only at h ⊢
      rw [e, h1] at h
      rw [e, h2]
      exact h
    · unfold tyv at h ⊢
      dsimp only at h ⊢
      cases q : H a with
      | none => rw [q] at h; cases h
      | some o => rw [q] at h; rw [k.keep a o e q]; exact h
  | _ => exact h
theorem BadW.kp {b : Addr} {H H' : Hp} {v : V} (B : Bag H b) (k : Kp b H H') (h : BadW H v) : BadW H' v := by
  rcases h with h | ⟨t, h1, h2⟩
  · exact .inl h
  · exact .inr ⟨t, tyv_kp B k h1, h2⟩
def clist (z : Str) : List Int := (z.cps.toList.map codeL).flatten
def spPlain : Sp := fun vs H Q _ => ∃ z : Str, vs = [.str z] ∧ z.length ≤ 1000 ∧ ∀ (p : Addr) (H' : Hp), Same H H' → H p = none → H' p = some (.lst (mi (clist z))) → Q (.ref p) H'
def spIsInt : Sp := fun vs H Q _ => ∃ v : V, vs = [v, .int 1, .int 3] ∧ ((∃ n, GoodV v n ∧ Q (.bl true) H) ∨ (BadV H v ∧ Q (.bl false) H))
theorem putF_len (f : Str) (v : V) : ∀ (fs : List (Str × V)) (k : Nat), fs.length ≤ k → (putF f v fs).length ≤ k + 1
  | [], k, _ => by
    show 1 ≤ k + 1
    omega
  | (g, w) :: fs, k, h => by
    have h' : fs.length + 1 ≤ k := h
    unfold putF
    split
    · show fs.length + 1 ≤ k + 1
      omega
    · have := putF_len f v fs (k - 1) (by omega)
      show (putF f v fs).length + 1 ≤ k + 1
      omega
def verL (n a1 a2 a3 a4 a5 a6 : Int) : List (Str × V) := [("number", .int n), ("width", .int a1), ("scale", .int a2), ("marks", .int a3), ("link", .int a4), ("cut", .int a5), ("half", .int a6)]
def verF (n : Int) : List (Str × V) := [("number", .int n), ("width", .int (n + 1)), ("scale", .int (if n = 3 then 4 else n)), ("marks", .int (8 * n + 8)), ("link", .int (if n = 1 then 1 else 2)), ("cut", .int (4 * n + 4)), ("half", .int (2 ^ (8 * n + 7).toNat))]
def spVer (K : PySem.W.Frag) : Sp := fun vs H Q E => ∃ (x dx : Addr) (v : V), vs = [.ref x, v] ∧ H x = some (.ins (He.ga K "Version") dx []) ∧
  ((∃ n, GoodV v n ∧ ∀ H', (∀ a o, a ≠ x → H a = some o → H' a = some o) → H' x = some (.ins (He.ga K "Version") dx (verF n)) → Q .non H') ∨
   (BadV H v ∧ ∀ d H', Same H H' → H d = none → H' d = some (.xd [("version", v)]) → E (.ref (He.ga K "BadVersion")) (some d) H'))
def spIsWord : Sp := fun vs H Q _ => ∃ v : V, vs = [v] ∧ ((∃ z, v = .str z ∧ z.length ≤ 1000 ∧ ∀ H', Same H H' → Q (.bl (isW z)) H') ∨ ∃ t, tyv H v = some t ∧ kitB t "str" = some false ∧ Q (.bl false) H)
def hexc (c : Int) : Nat := ("0123456789abcdef" : Str).cps.toList.getD c.toNat 0
def hexS (l : List Int) : Str := Txt.join "" (l.map fun c => S1 (hexc c))
def cutT (n : Int) (z : Str) : Str := hexS ((clist z ++ List.replicate 16 15).take (4 * n + 4).toNat)
theorem ones_sum (cl : List Int) : ((cl.map fun c => S1 (hexc c)).map (·.length)).sum = cl.length := by
  rw [List.map_map]
  induction cl with
  | nil => rfl
  | cons c l ih =>
    rw [List.map_cons, List.sum_cons, ih]
    show 1 + l.length = l.length + 1
    omega
theorem str_ext {a b : Str} (h : a.cps.toList = b.cps.toList) : a = b := by
  cases a with
  | mk x =>
    cases b with
    | mk y =>
      have e : x = y := Array.toList_inj.mp h
      rw [e]
theorem hexS_list (l : List Int) : (hexS l).cps.toList = l.map hexc := by
  unfold hexS
  rw [join0_list, List.map_map]
  induction l with
  | nil => rfl
  | cons c l ih =>
    rw [List.map_cons, List.flatten_cons, ih]
    rfl
theorem hexS_len (l : List Int) : (hexS l).length = l.length := by
  show (hexS l).cps.size = _
  rw [← Array.length_toList, hexS_list, List.length_map]
theorem cut_eq (l : List Int) (k : Nat) (hk : k ≤ 16) : Txt.ljustF (hexS (l.take k)) (k : Int) 102 = hexS ((l ++ List.replicate 16 15).take k) := by
  apply str_ext
  rw [PyProof.Rows.ljustF_list, hexS_list, hexS_list, hexS_len, Int.toNat_natCast, List.length_take, List.take_append, List.map_append, List.take_replicate, List.map_replicate]
  congr 1
  have e : hexc 15 = 102 := by decide +kernel
  rw [e]
  congr 1
  omega
theorem word_codes : ∀ c ∈ (44 :: wordSigns.cps.toList), (codeL c).all (fun x => decide (0 ≤ x) && decide (x ≤ 15)) = true := by decide +kernel
theorem isW_mem {z : Str} (h : isW z = true) : ∀ c ∈ z.cps.toList, c ∈ (44 :: wordSigns.cps.toList) := by
  intro c hc
  unfold isW at h
  rcases Bool.or_eq_true_iff.mp h with h | h
  · have e : z = "," := of_decide_eq_true h
    rw [e] at hc
    have e2 : c = 44 := List.mem_singleton.mp hc
    rw [e2]
    exact List.mem_cons_self ..
  · have h2 := (Bool.and_eq_true_iff.mp h).2
    exact List.mem_cons_of_mem _ (of_decide_eq_true (List.all_eq_true.mp h2 c hc))
theorem clist_ok {z : Str} (h : isW z = true) : ∀ x ∈ clist z, 0 ≤ x ∧ x ≤ 15 := by
  intro x hx
  unfold clist at hx
  obtain ⟨l, hl, hx⟩ := List.mem_flatten.mp hx
  obtain ⟨c, hc, rfl⟩ := List.mem_map.mp hl
  have := List.all_eq_true.mp (word_codes c (isW_mem h c hc)) x hx
  simpa using this
theorem hex_get {x : Int} (h0 : 0 ≤ x) (h1 : x ≤ 15) : atI ("0123456789abcdef" : Str).cps.toList x = some (hexc x) := by
  have key : ∀ n : Nat, n < 16 → atI ("0123456789abcdef" : Str).cps.toList ((n : Nat) : Int) = some (hexc ((n : Nat) : Int)) := by decide +kernel
  have := key x.toNat (by omega)
  rw [show ((x.toNat : Nat) : Int) = x by omega] at this
  exact this
def spCutForm (K : PySem.W.Frag) : Sp := fun vs H Q E => ∃ v w : V, vs = [v, w] ∧
  ((BadV H v ∧ ∀ d H', Same H H' → H d = none → H' d = some (.xd [("version", v)]) → E (.ref (He.ga K "BadVersion")) (some d) H') ∨
   (∃ n, GoodV v n ∧ BadW H w ∧ ∀ d H', Same H H' → H d = none → H' d = some (.xd [("word", w)]) → E (.ref (He.ga K "BadWord")) (some d) H') ∨
   (∃ n z, GoodV v n ∧ GoodW w z ∧ ∀ H', Same H H' → Q (.str (cutT n z)) H'))
def spAlike (K : PySem.W.Frag) : Sp := fun vs H Q E => ∃ v a b : V, vs = [v, a, b] ∧
  ((BadV H v ∧ ∀ d H', Same H H' → H d = none → H' d = some (.xd [("version", v)]) → E (.ref (He.ga K "BadVersion")) (some d) H') ∨
   (∃ n, GoodV v n ∧ BadW H a ∧ ∀ d H', Same H H' → H d = none → H' d = some (.xd [("word", a)]) → E (.ref (He.ga K "BadWord")) (some d) H') ∨
   (∃ n z, GoodV v n ∧ GoodW a z ∧ BadW H b ∧ ∀ d H', Same H H' → H d = none → H' d = some (.xd [("word", b)]) → E (.ref (He.ga K "BadWord")) (some d) H') ∨
   (∃ n z y, GoodV v n ∧ GoodW a z ∧ GoodW b y ∧ ∀ H', Same H H' → Q (.bl (decide (cutT n z = cutT n y))) H'))
def spLCut : Sp := fun vs H Q _ => ∃ (n : Int) (z : Str), vs = [.int n, .str z] ∧ 1 ≤ n ∧ n ≤ 3 ∧ z.length ≤ 1000 ∧ isW z = true ∧ ∀ H', Same H H' → Q (.str (cutT n z)) H'
def WS (z : Str) : Prop := ∀ c ∈ z.cps.toList, c ∈ wordSigns.cps.toList
theorem isW_of {z : Str} (h : WS z) (h1 : 1 ≤ z.length) (h2 : z.length ≤ 20) : isW z = true := by
  unfold isW
  rw [decide_eq_true h1, decide_eq_true h2, List.all_eq_true.mpr fun c hc => decide_eq_true (h c hc)]
  simp
theorem isW_ws {z : Str} (h : isW z = true) (hn : z ≠ ",") : WS z ∧ 1 ≤ z.length := by
  unfold isW at h
  rw [decide_eq_false hn, Bool.false_or] at h
  obtain ⟨h1, h2⟩ := Bool.and_eq_true_iff.mp h
  obtain ⟨h3, h4⟩ := Bool.and_eq_true_iff.mp h1
  exact ⟨fun c hc => of_decide_eq_true (List.all_eq_true.mp h2 c hc), of_decide_eq_true h3⟩
theorem WS.app {a b : Str} (ha : WS a) (hb : WS b) : WS (a ++ b) := fun c hc => by
  rw [list_app, List.mem_append] at hc
  exact hc.elim (ha c) (hb c)
theorem WS.cut {a : Str} {lo hi : Option Int} (ha : WS a) : WS (cutS a lo hi) := fun c hc => ha c (cut_sub hc)
def typS : Str := "etaonisrhldcumfpgwybvkxjqz0123456789'-"
theorem typS_ws : WS typS := by
  have : (typS.cps.toList.all fun c => decide (c ∈ wordSigns.cps.toList)) = true := by decide +kernel
  exact fun c hc => of_decide_eq_true (List.all_eq_true.mp this c hc)
def spTyped : Sp := fun vs H Q _ => ∃ (b p : Addr) (ws : List Str), vs = [.ref b, .ref p] ∧ Bag H b ∧ H p = some (.lst (ws.map V.str)) ∧ ws.length ≤ 200 ∧ (∀ z ∈ ws, isW z = true ∧ z.length ≤ 20) ∧ ∀ (z : Str) (H' : Hp), isW z = true → z.length ≤ 20 → Kp b H H' → Q (.str z) H'
theorem bad_word {v : V} {H : Hp} {P : VK} {E : XK} (b : BadW H v) (k : ∀ H', Same H H' → P (.bl false) H') : spIsWord [v] H P E := by
  rcases b with ⟨z, rfl, l, h⟩ | ⟨t, h1, h2⟩
  · exact ⟨_, rfl, .inl ⟨z, rfl, l, fun H' s => by rw [h]; exact k H' s⟩⟩
  · exact ⟨_, rfl, .inr ⟨t, h1, h2, k H (Same.refl H)⟩⟩
theorem shw_str {K : PySem.W.Frag} {H : Hp} {z : Str} (h1 : (reprText z).length ≤ sizeLine) (h2 : isF (.str (reprText z)) = true) : Shw K H (.str z) (.str z) := ⟨.str z, rfl, rfl, (show 0 ≤ 50 by decide), h1, h2⟩
theorem getD_lt : ∀ (l : List Nat) (n : Nat), (∀ x ∈ l, x < 200) → l.getD n 0 < 200
  | [], n, _ => by
    show (0 : Nat) < 200
    decide
  | x :: l, 0, h => h x (List.mem_cons_self ..)
  | x :: l, n + 1, h => getD_lt l n fun y hy => h y (List.mem_cons_of_mem _ hy)
theorem hexc_lt (c : Int) : hexc c < 200 := by
  unfold hexc
  have key : ∀ x ∈ ("0123456789abcdef" : Str).cps.toList, x < 200 := by decide +kernel
  exact getD_lt _ _ key
theorem cut_ok (n : Int) (z : Str) : isF (.str (cutT n z)) = true := by
  show PyData.strOk (cutT n z) = true
  unfold PyData.strOk cutT
  rw [← Array.all_toList, hexS_list, List.all_eq_true]
  intro x hx
  obtain ⟨c, _, rfl⟩ := List.mem_map.mp hx
  exact decide_eq_true (Nat.lt_trans (hexc_lt c) (by decide))
theorem kb_none_int : kitB "NoneType" "int" = some false := by decide +kernel
theorem kb_str_int : kitB "str" "int" = some false := by decide +kernel
theorem kb_list_int : kitB "list" "int" = some false := by decide +kernel
theorem kb_tuple_int : kitB "tuple" "int" = some false := by decide +kernel
abbrev strL (p1 p2 : Addr) : List V := [V.int 0, V.int 4, V.int (-1), V.bl true, V.bl false, V.non, V.str "1", V.ref p1, V.ref p2, V.int (10 ^ Int.toNat 30)]
theorem str_bad {K : PySem.W.Frag} {H : Hp} {p1 p2 : Addr} {v : V} (hm : v ∈ strL p1 p2) (h1 : H p1 = some (.tup [.int 1])) (h2 : H p2 = some (.lst [.int 2])) : ∃ d, BadV H v ∧ Shw K H v d := by
  simp only [strL, List.mem_cons, List.not_mem_nil, or_false] at hm
  rcases hm with rfl | rfl | rfl | rfl | rfl | rfl | rfl | rfl | rfl | rfl
  · exact ⟨.int 0, .inr (.inr ⟨_, rfl, by decide⟩), ⟨.int _, by decide, rfl, by decide, by decide +kernel, by decide +kernel⟩⟩
  · exact ⟨.int 4, .inr (.inr ⟨_, rfl, by decide⟩), ⟨.int _, by decide, rfl, by decide, by decide +kernel, by decide +kernel⟩⟩
  · exact ⟨.int (-1), .inr (.inr ⟨_, rfl, by decide⟩), ⟨.int _, by decide, rfl, by decide, by decide +kernel, by decide +kernel⟩⟩
  · exact ⟨.bool true, .inr (.inl ⟨_, rfl⟩), ⟨.bl true, by decide, rfl, by decide, by decide +kernel, by decide +kernel⟩⟩
  · exact ⟨.bool false, .inr (.inl ⟨_, rfl⟩), ⟨.bl false, by decide, rfl, by decide, by decide +kernel, by decide +kernel⟩⟩
  · exact ⟨.none, .inl ⟨_, tyv_non, kb_none_int⟩, ⟨.non, by decide, rfl, by decide, by decide +kernel, by decide +kernel⟩⟩
  · exact ⟨.str "1", .inl ⟨_, tyv_str, kb_str_int⟩, ⟨.str _, by decide, rfl, by decide, by decide +kernel, by decide +kernel⟩⟩
  · exact ⟨.tuple [.int 1], .inl ⟨_, tyv_tup h1, kb_tuple_int⟩, ⟨.tup (.inl (.inl h1)) (.cons (.int _) .nil), by decide, rfl, by decide, by decide +kernel, by decide +kernel⟩⟩
  · exact ⟨.list [.int 2], .inl ⟨_, tyv_lst h2, kb_list_int⟩, ⟨.lst (.inl (.inl h2)) (.cons (.int _) .nil), by decide, rfl, by decide, by decide +kernel, by decide +kernel⟩⟩
  · exact ⟨.int (10 ^ Int.toNat 30), .inr (.inr ⟨_, rfl, by decide +kernel⟩), ⟨.int _, by decide +kernel, rfl, by decide +kernel, by decide +kernel, by decide +kernel⟩⟩
/-- a lexicon's fields -/
def lexF (n : Int) (p q : Addr) : List (Str × V) := [("version", .int n), ("forms", .ref p), ("words", .ref q)]
/-- the forms ascend, each is there once, each has its word -/
structure LexOk (n : Int) (fs ws : List Str) : Prop where
  n1 : 1 ≤ n
  n3 : n ≤ 3
  so : sortedS fs = true
  nd : fs.Nodup
  wd : ws.map (cutT n) = fs
  ok : ∀ z ∈ ws, isW z = true ∧ z.length ≤ 1000
  lt : fs.length ≤ 500
theorem LexOk.isF {n : Int} {fs ws : List Str} (h : LexOk n fs ws) : (ms fs).all isF = true := by
  rw [← h.wd, List.all_eq_true]
  intro v hv
  obtain ⟨f, hf, rfl⟩ := List.mem_map.mp hv
  obtain ⟨w, _, rfl⟩ := List.mem_map.mp hf
  exact cut_ok n w
def Lex (K : PySem.W.Frag) (H : Hp) (x : Addr) (n : Int) (fs ws : List Str) : Prop := LexOk n fs ws ∧ ∃ dx p q, H x = some (.ins (He.ga K "Lexicon") dx (lexF n p q)) ∧ FT H p (ms fs) ∧ FT H q (ms ws)
theorem Lex.same {K : PySem.W.Frag} {H H' : Hp} {x : Addr} {n : Int} {fs ws : List Str} (h : Lex K H x n fs ws) (s : Same H H') : Lex K H' x n fs ws := by
  obtain ⟨o, dx, p, q, h1, h2, h3⟩ := h
  exact ⟨o, dx, p, q, s _ _ h1, h2.same s, h3.same s⟩
theorem Lex.kp {K : PySem.W.Frag} {b : Addr} {H H' : Hp} {x : Addr} {n : Int} {fs ws : List Str} (h : Lex K H x n fs ws) (B : Bag H b) (k : Kp b H H') : Lex K H' x n fs ws := by
  obtain ⟨o, dx, p, q, h1, h2, h3⟩ := h
  exact ⟨o, dx, p, q, k.ins B h1, h2.kp B k, h3.kp B k⟩
def spLGet (K : PySem.W.Frag) : Sp := fun vs H Q _ => ∃ (x : Addr) (i : Int) (n : Int) (fs ws : List Str), vs = [.ref x, .int i] ∧ Lex K H x n fs ws ∧ ∃ z, atI (ms fs) i = some (.str z) ∧ Q (.str z) H
def spLIter (K : PySem.W.Frag) : Sp := fun vs H Q _ => ∃ (x : Addr) (n : Int) (fs ws : List Str), vs = [.ref x] ∧ Lex K H x n fs ws ∧ ∀ it p, FT H p (ms fs) → H it = none → Q (.ref it) (upd H it (TItO p it 0))
def spLLen (K : PySem.W.Frag) : Sp := fun vs H Q _ => ∃ (x : Addr) (n : Int) (fs ws : List Str), vs = [.ref x] ∧ Lex K H x n fs ws ∧ Q (.int (fs.length : Nat)) H
/-- find(word): the number of its cut form, or None -/
def findV (n : Int) (fs : List Str) (z : Str) : V := if cutT n z ∈ fs then .int (fs.idxOf (cutT n z) : Nat) else .non
def spLFind (K : PySem.W.Frag) : Sp := fun vs H Q _ => ∃ (x : Addr) (v : V) (n : Int) (fs ws : List Str), vs = [.ref x, v] ∧ Lex K H x n fs ws ∧ ((∃ z, GoodW v z ∧ ∀ H', Same H H' → Q (findV n fs z) H') ∨ (BadW H v ∧ ∀ H', Same H H' → Q .non H'))
def spLIn (K : PySem.W.Frag) : Sp := fun vs H Q _ => ∃ (x : Addr) (v : V) (n : Int) (fs ws : List Str), vs = [.ref x, v] ∧ Lex K H x n fs ws ∧ ((∃ z, GoodW v z ∧ ∀ H', Same H H' → Q (.bl (decide (cutT n z ∈ fs))) H') ∨ (BadW H v ∧ ∀ H', Same H H' → Q (.bl false) H'))
def spLEq (K : PySem.W.Frag) : Sp := fun vs H Q _ => ∃ (x y : Addr) (n m : Int) (fs ws gs us : List Str), vs = [.ref x, .ref y] ∧ Lex K H x n fs ws ∧ Lex K H y m gs us ∧ Q (.bl (decide (n = m) && decide (fs = gs))) H
/-- the first thing that is no word -/
inductive FirstBad (H : Hp) : List V → V → Prop where
  | here {v : V} {l : List V} (h : BadW H v) : FirstBad H (v :: l) v
  | there {u v : V} {z : Str} {l : List V} (h : GoodW u z) (r : FirstBad H l v) : FirstBad H (u :: l) v
/-- a lexicon of these words -/
def lexOf (n : Int) (zs fs ws : List Str) : Prop := LexOk n fs ws ∧ (∀ f, f ∈ fs ↔ f ∈ zs.map (cutT n))
def spLex (K : PySem.W.Frag) : Sp := fun vs H Q E => ∃ (x dx : Addr) (v : V) (pw : Addr) (l : List V), vs = [.ref x, v, .ref pw] ∧ H x = some (.ins (He.ga K "Lexicon") dx []) ∧ (SqL K H pw l ∨ SqT K H pw l) ∧ l.length ≤ 500 ∧
  ((BadV H v ∧ ∀ d H', (∀ a o, a ≠ x → H a = some o → H' a = some o) → H d = none → H' d = some (.xd [("version", v)]) → E (.ref (He.ga K "BadVersion")) (some d) H') ∨
   (∃ n w, GoodV v n ∧ FirstBad H l w ∧ ∀ d H', (∀ a o, a ≠ x → H a = some o → H' a = some o) → H d = none → H' d = some (.xd [("word", w)]) → E (.ref (He.ga K "BadWord")) (some d) H') ∨
   (∃ n zs, GoodV v n ∧ l = ms zs ∧ (∀ z ∈ zs, isW z = true ∧ z.length ≤ 1000) ∧ ∀ H' fs ws, lexOf n zs fs ws → (∀ a o, a ≠ x → H a = some o → H' a = some o) → Lex K H' x n fs ws → Q .non H'))
def spLAnd (K : PySem.W.Frag) : Sp := fun vs H Q _ => ∃ (x y : Addr) (n m : Int) (fs ws gs us : List Str), vs = [.ref x, .ref y] ∧ Lex K H x n fs ws ∧ Lex K H y m gs us ∧ ∀ z H' hs ts, Same H H' → Lex K H' z n hs ts → (∀ f, f ∈ hs ↔ f ∈ fs ∧ f ∈ gs) → Q (.ref z) H'
def spLOr (K : PySem.W.Frag) : Sp := fun vs H Q _ => ∃ (x y : Addr) (n : Int) (fs ws gs us : List Str), vs = [.ref x, .ref y] ∧ Lex K H x n fs ws ∧ Lex K H y n gs us ∧ fs.length + gs.length ≤ 500 ∧ ∀ z H' hs ts, Same H H' → Lex K H' z n hs ts → (∀ f, f ∈ hs ↔ f ∈ fs ∨ f ∈ gs) → Q (.ref z) H'
/-- the table of forms: pairs of a form and its word -/
abbrev tab (ps : List (Str × Str)) : List (Key × V) := ps.map fun p => (Sum.inr p.1, V.str p.2)
structure TabOk (n : Int) (zs : List Str) (ps : List (Str × Str)) : Prop where
  nd : (ps.map (·.1)).Nodup
  of : ∀ p ∈ ps, p.1 = cutT n p.2 ∧ p.2 ∈ zs
  all : ∀ z ∈ zs, cutT n z ∈ ps.map (·.1)
  len : ps.length ≤ zs.length
theorem tab_any (ps : List (Str × Str)) (f : Str) : ((tab ps).any fun kv => decide (kv.1 = Sum.inr f)) = decide (f ∈ ps.map (·.1)) := by
  induction ps with
  | nil => rfl
  | cons p ps ih =>
    rw [tab, List.map_cons, List.any_cons, ih]
    by_cases e : p.1 = f
    · simp [e]
    · have e2 : ¬ f = p.1 := fun h => e h.symm
      simp [e, e2]
theorem tab_put {n : Int} {zs : List Str} {ps : List (Str × Str)} (t : TabOk n zs ps) (z : Str) : ∃ ps', putK (tab ps) (.inr (cutT n z)) (.str z) = tab ps' ∧ TabOk n (zs ++ [z]) ps' := by
  unfold putK
  rw [tab_any]
  by_cases h : cutT n z ∈ ps.map (·.1)
  · rw [decide_eq_true h, if_pos rfl]
    have ek : (ps.map fun p => if p.1 = cutT n z then (p.1, z) else p).map (·.1) = ps.map (·.1) := by
      rw [List.map_map]
      apply List.map_congr_left
      intro p _
      show (if p.1 = cutT n z then (p.1, z) else p).1 = p.1
      split <;> rfl
    refine ⟨ps.map fun p => if p.1 = cutT n z then (p.1, z) else p, ?_, ⟨?_, ?_, ?_, ?_⟩⟩
    · rw [tab, tab, List.map_map, List.map_map]
      apply List.map_congr_left
      intro p _
      show (if (Sum.inr p.1 : Key) = Sum.inr (cutT n z) then ((Sum.inr p.1 : Key), V.str z) else (Sum.inr p.1, V.str p.2)) = (Sum.inr (if p.1 = cutT n z then (p.1, z) else p).1, V.str (if p.1 = cutT n z then (p.1, z) else p).2)
      by_cases e : p.1 = cutT n z
      · rw [if_pos (by rw [e]), if_pos e]
      · rw [if_neg (fun k => e (Sum.inr.inj k)), if_neg e]
    · rw [ek]
      exact t.nd
    · intro p hp
      obtain ⟨p0, hp0, rfl⟩ := List.mem_map.mp hp
      by_cases e : p0.1 = cutT n z
      · rw [if_pos e]
        exact ⟨e, by simp⟩
      · rw [if_neg e]
        exact ⟨(t.of p0 hp0).1, List.mem_append_left _ (t.of p0 hp0).2⟩
    · intro w hw
      rw [ek]
      rcases List.mem_append.mp hw with hw | hw
      · exact t.all w hw
      · rw [List.mem_singleton.mp hw]
        exact h
    · rw [List.length_map, List.length_append]
      exact Nat.le_trans t.len (Nat.le_add_right _ _)
  · rw [decide_eq_false h, if_neg (by decide)]
    refine ⟨ps ++ [(cutT n z, z)], by rw [tab, tab, List.map_append]; rfl, ⟨?_, ?_, ?_, ?_⟩⟩
    · rw [List.map_append, List.nodup_append]
      refine ⟨t.nd, by simp, fun a ha b hb => ?_⟩
      have eb : b = cutT n z := by simpa using hb
      rw [eb]
      intro e
      exact h (e ▸ ha)
    · intro p hp
      rcases List.mem_append.mp hp with hp | hp
      · exact ⟨(t.of p hp).1, List.mem_append_left _ (t.of p hp).2⟩
      · rw [List.mem_singleton.mp hp]
        exact ⟨rfl, by simp⟩
    · intro w hw
      rw [List.map_append]
      rcases List.mem_append.mp hw with hw | hw
      · exact List.mem_append_left _ (t.all w hw)
      · rw [List.mem_singleton.mp hw]
        simp
    · have := t.len
      simp only [List.length_append, List.length_singleton]
      omega
theorem tab_val {n : Int} {zs : List Str} {ps : List (Str × Str)} (t : TabOk n zs ps) {f : Str} (h : f ∈ ps.map (·.1)) : ∃ w, valV (tab ps) (.inr f) = some (.str w) ∧ cutT n w = f ∧ w ∈ zs := by
  obtain ⟨p, hp, rfl⟩ := List.mem_map.mp h
  have key : ∀ qs : List (Str × Str), (∀ q ∈ qs, q.1 = cutT n q.2 ∧ q.2 ∈ zs) → p.1 ∈ qs.map (·.1) → ∃ w, valV (tab qs) (.inr p.1) = some (.str w) ∧ cutT n w = p.1 ∧ w ∈ zs := by
    intro qs
    induction qs with
    | nil => intro _ h; cases h
    | cons q qs ih =>
      intro hq hm
      by_cases e : q.1 = p.1
      · exact ⟨q.2, valV_pos (show (Sum.inr q.1 : Key) = Sum.inr p.1 by rw [e]), by rw [← (hq q List.mem_cons_self).1, e], (hq q List.mem_cons_self).2⟩
      · obtain ⟨w, h1, h2⟩ := ih (fun r hr => hq r (List.mem_cons_of_mem _ hr)) ((List.mem_cons.mp hm).resolve_left fun k => e k.symm)
        refine ⟨w, ?_, h2⟩
        rw [tab, List.map_cons, valV_neg (fun k => e (Sum.inr.inj k))]
        exact h1
  exact key ps t.of h
theorem tab_keys (ps : List (Str × Str)) : (tab ps).map (fun kv => kV kv.1) = ms (ps.map (·.1)) := by
  rw [tab, ms, List.map_map, List.map_map]
  rfl
/-- all but the object at x is kept -/
def Kx (x : Addr) (H H' : Hp) : Prop := ∀ a o, a ≠ x → H a = some o → H' a = some o
theorem Kx.trans {x : Addr} {H H1 H2 : Hp} (a : Kx x H H1) (b : Kx x H1 H2) : Kx x H H2 := fun c o n h => b c o n (a c o n h)
theorem Kx.of {x : Addr} {H H1 : Hp} (s : Same H H1) : Kx x H H1 := fun a o _ h => s a o h
theorem Rd.kx {x : Addr} {H H' : Hp} {C dx : Addr} {fs : List (Str × V)} {a : Addr} {u : HO} (k : Kx x H H') (hx : H x = some (.ins C dx fs)) (hu : ∀ C dx fs, u ≠ .ins C dx fs) (h : L2.Rd H a u) : L2.Rd H' a u := by
  rcases h with h | ⟨o, h⟩
  · exact .inl (k a _ (ne_of h hx fun e => hu _ _ _ e) h)
  · exact .inr ⟨o, k a _ (ne_of h hx fun e => by cases e) h⟩
def SqA (K : PySem.W.Frag) (H : Hp) (a : Addr) (xs : List V) : Prop := SqL K H a xs ∨ SqT K H a xs
theorem SqA.same {K : PySem.W.Frag} {H H' : Hp} {a : Addr} {xs : List V} (h : SqA K H a xs) (s : Same H H') : SqA K H' a xs := by
  rcases h with ((h | ⟨o, h⟩) | h) | ((h | ⟨o, h⟩) | h)
  · exact .inl (.inl (.inl (s _ _ h)))
  · exact .inl (.inl (.inr ⟨o, s _ _ h⟩))
  · exact .inl (.inr h)
  · exact .inr (.inl (.inl (s _ _ h)))
  · exact .inr (.inl (.inr ⟨o, s _ _ h⟩))
  · exact .inr (.inr h)
theorem forA {K : PySem.W.Frag} {x : Addr} {C dx : Addr} {fs : List (Str × V)} {a : Addr} {xs : List V} {j : Nat} {g : TG} {tb : TS} {D : Ends} {σ : L2.St} {Hb H : Hp} (hx : Hb x = some (.ins C dx fs)) (hv : σ[j]? = some (some (.ref a))) (hq : SqA K Hb a xs) (Pv : Nat → L2.St → Hp → Prop) (h0 : Pv 0 σ H) (hS : ∀ i σ H', Pv i σ H' → Kx x Hb H')
    (hs : ∀ i y σ H, xs[i]? = some y → Pv i σ H → g y σ H fun σ2 H2 => tb { D with nx := Pv (i + 1), ct := Pv (i + 1), bk := D.nx } σ2 H2) (hd : ∀ σ H, Pv xs.length σ H → D.nx σ H) : tFor (iQ K (tVar j)) g tb D σ H := by
  rcases hq with hq | hq
  · have kL : ∀ i σ H', Pv i σ H' → SqL K H' a xs := fun i σ H' p => by
      rcases hq with hq | hq
      · exact .inl (Rd.kx (hS i σ H' p) hx (fun _ _ _ e => by cases e) hq)
      · exact .inr hq
    exact .inl ⟨_, hv, a, rfl, ⟨_, kL _ _ _ h0⟩, for_list (K := K) (a := a) (xs := xs) Pv h0 (fun i σ H' _ p => kL i σ H' p) hs hd⟩
  · have kT : ∀ i σ H', Pv i σ H' → SqT K H' a xs := fun i σ H' p => by
      rcases hq with hq | hq
      · exact .inl (Rd.kx (hS i σ H' p) hx (fun _ _ _ e => by cases e) hq)
      · exact .inr hq
    exact .inr ⟨_, hv, a, rfl, ⟨_, kT _ _ _ h0⟩, for_tup (K := K) (a := a) (xs := xs) Pv h0 (fun i σ H' _ p => kT i σ H' p) hs hd⟩
theorem Kx.free {x d : Addr} {H H' : Hp} {o : HO} (k : Kx x H H') (hx : H' x = some o) (h : H' d = none) : H d = none := by
  cases q : H d with
  | none => rfl
  | some u =>
    by_cases e : d = x
    · rw [e, hx] at h
      cases h
    · rw [k d u e q] at h
      cases h
theorem tyv_kx {x : Addr} {H H' : Hp} {C dx : Addr} {fs : List (Str × V)} {v : V} {t : String} (k : Kx x H H') (hx : H x = some (.ins C dx fs)) (h : tyv H v = some t) : tyv H' v = some t := by
  cases v with
  | ref a =>
    by_cases e : a = x
    · unfold tyv at h
      dsimp only at h
      rw [e, hx] at h
      cases h
    · unfold tyv at h ⊢
      dsimp only at h ⊢
      cases q : H a with
      | none => rw [q] at h; cases h
      | some o => rw [q] at h; rw [k a o e q]; exact h
  | _ => exact h
theorem BadW.kx {x : Addr} {H H' : Hp} {C dx : Addr} {fs : List (Str × V)} {v : V} (k : Kx x H H') (hx : H x = some (.ins C dx fs)) (h : BadW H v) : BadW H' v := by
  rcases h with h | ⟨t, h1, h2⟩
  · exact .inl h
  · exact .inr ⟨t, tyv_kx k hx h1, h2⟩
theorem bad_not {H : Hp} {z : Str} (h : BadW H (.str z)) (w : isW z = true) : False := by
  rcases h with ⟨y, e, _, h⟩ | ⟨t, h1, h2⟩
  · cases e
    rw [w] at h
    cases h
  · rw [tyv_str] at h1
    cases h1
    rw [kb_str_str] at h2
    cases h2
theorem FirstBad.at {H : Hp} {w : V} : ∀ {l : List V}, FirstBad H l w → ∀ {i : Nat} {zs : List Str} {y : V}, l.take i = ms zs → (∀ z ∈ zs, isW z = true ∧ z.length ≤ 1000) → l[i]? = some y → (∃ z, GoodW y z) ∨ (y = w ∧ BadW H y)
  | _, .here h, 0, _, y, _, _, hy => by
    have e : _ = y := Option.some.inj hy
    subst e
    exact .inr ⟨rfl, h⟩
  | _, .here (v := v) (l := l) h, i + 1, zs, y, ht, hw, _ => by
    rw [List.take_succ_cons] at ht
    cases zs with
    | nil => cases ht
    | cons z zs =>
      have e : v = .str z := (List.cons.inj ht).1
      subst e
      exact (bad_not h (hw z List.mem_cons_self).1).elim
  | _, .there (z := z) h r, 0, _, y, _, _, hy => by
    have e : _ = y := Option.some.inj hy
    subst e
    exact .inl ⟨z, h⟩
  | _, .there (u := u) (l := l) h r, i + 1, zs, y, ht, hw, hy => by
    rw [List.take_succ_cons] at ht
    cases zs with
    | nil => cases ht
    | cons z zs => exact FirstBad.at r (List.cons.inj ht).2 (fun z hz => hw z (List.mem_cons_of_mem _ hz)) (by simpa using hy)
theorem FirstBad.no {H : Hp} {w : V} : ∀ {l : List V}, FirstBad H l w → ∀ {zs : List Str}, l = ms zs → (∀ z ∈ zs, isW z = true ∧ z.length ≤ 1000) → False
  | _, .here h, zs, ht, hw => by
    cases zs with
    | nil => cases ht
    | cons z zs =>
      have e := (List.cons.inj ht).1
      subst e
      exact bad_not h (hw z List.mem_cons_self).1
  | _, .there h r, zs, ht, hw => by
    cases zs with
    | nil => cases ht
    | cons z zs => exact FirstBad.no r (List.cons.inj ht).2 fun z hz => hw z (List.mem_cons_of_mem _ hz)
def spRow : Sp := fun vs H Q _ => ∃ (b p : Addr) (l : List Str), vs = [.ref b, .ref p] ∧ Bag H b ∧ H p = some (.lst (ms l)) ∧ l.length ≤ 40 ∧ (∀ z ∈ l, isW z = true ∧ z.length ≤ 20) ∧ ∀ q ys H', Kp b H H' → H q = none → H' q = some (.lst (ms ys)) → ys.length ≤ 40 → (∀ z ∈ ys, isW z = true ∧ z.length ≤ 20) → Q (.ref q) H'
def spOdd (K : PySem.W.Frag) : Sp := fun vs H Q _ => ∃ b : Addr, vs = [.ref b] ∧ Bag H b ∧ ∀ (v : V) (d : PyData) (H' : Hp), Kp b H H' → BadW H' v → Shw K H' v d → Sm d 10 1000 → Q v H'
def oddS : List Str := ["", Txt.mul "e" 21, "A", "aB", "a b", " a", "a ", "a,", ",,", "a.", "a_b", "a\n"]
theorem oddS_ok : (oddS.all fun z => !isW z && decide (z.length ≤ 1000) && decide ((reprText z).length ≤ 1000) && PyData.strOk (reprText z)) = true := by decide +kernel
def spInteger : Sp := fun vs H Q _ => ∃ i : Int, vs = [.int i] ∧ Q (.bl true) H
/-- the different ones, ascending -/
def DistOf (l ys : List Str) : Prop := sortedS ys = true ∧ ys.Nodup ∧ ∀ f, f ∈ ys ↔ f ∈ l
def spDist : Sp := fun vs H Q _ => ∃ (p : Addr) (l : List Str), vs = [.ref p] ∧ H p = some (.lst (ms l)) ∧ l.length ≤ 500 ∧ ∀ q ys H', Same H H' → DistOf l ys → H q = none → H' q = some (.lst (ms ys)) → Q (.ref q) H'
def spForms : Sp := fun vs H Q _ => ∃ (n : Int) (p : Addr) (l : List Str), vs = [.int n, .ref p] ∧ 1 ≤ n ∧ n ≤ 3 ∧ H p = some (.lst (ms l)) ∧ l.length ≤ 500 ∧ (∀ z ∈ l, isW z = true ∧ z.length ≤ 1000) ∧ ∀ q ys H', Same H H' → DistOf (l.map (cutT n)) ys → H q = none → H' q = some (.lst (ms ys)) → Q (.ref q) H'
def spIs (K : PySem.W.Frag) : Sp := fun vs H Q _ => ∃ (x p : Addr) (n : Int) (fs ws : List Str), vs = [.ref x, .ref p] ∧ Lex K H x n fs ws ∧ H p = some (.lst (ms fs)) ∧ ∀ H', Same H H' → Q (.bl true) H'
theorem mk_lex {K : PySem.W.Frag} {H1 : Hp} {n : Int} {pw : Addr} {zs : List Str} {Q : Addr → Hp → Prop} {E : XK} (n1 : 1 ≤ n) (n3 : n ≤ 3) (hq : SqA K H1 pw (ms zs)) (hl : zs.length ≤ 500) (hw : ∀ z ∈ zs, isW z = true ∧ z.length ≤ 1000) (q : ∀ x H' fs ws, Same H1 H' → lexOf n zs fs ws → Lex K H' x n fs ws → Q x H') :
    ∀ (x dx : Addr), H1 x = none → H1 dx = none → dx ≠ x → spLex K [.ref x, .int n, .ref pw] (upd (upd H1 dx (.own x)) x (.ins (He.ga K "Lexicon") dx [])) (fun v H2 => v = .non ∧ Q x H2) E := by
  intro z dz nz ndz nez
  have sx : Same H1 (upd (upd H1 dz (.own z)) z (.ins (He.ga K "Lexicon") dz [])) := fun b o e => by
    rw [upd_ne (ne_of_none e nz), upd_ne (ne_of_none e ndz)]
    exact e
  have hq2 : SqA K (upd (upd H1 dz (.own z)) z (.ins (He.ga K "Lexicon") dz [])) pw (ms zs) := by
    rcases hq with ((h | ⟨o, h⟩) | h) | ((h | ⟨o, h⟩) | h)
    · exact .inl (.inl (.inl (sx _ _ h)))
    · exact .inl (.inl (.inr ⟨o, sx _ _ h⟩))
    · exact .inl (.inr h)
    · exact .inr (.inl (.inl (sx _ _ h)))
    · exact .inr (.inl (.inr ⟨o, sx _ _ h⟩))
    · exact .inr (.inr h)
  refine ⟨z, dz, _, pw, ms zs, rfl, upd_same, hq2, by rw [List.length_map]; omega, .inr (.inr ⟨n, zs, ⟨rfl, n1, n3⟩, rfl, hw, fun H2 hs ts hlx hk hl2 => ⟨rfl, q z H2 hs ts ?_ hlx hl2⟩⟩)⟩
  intro b o e
  exact hk b o (ne_of_none e nz) (sx _ _ e)
theorem nd_len : ∀ {a b : List Str}, a.Nodup → (∀ z ∈ a, z ∈ b) → a.length ≤ b.length
  | [], _, _, _ => Nat.zero_le _
  | x :: a, b, nd, h => by
    have hx := h x List.mem_cons_self
    have := nd_len (a := a) (b := b.erase x) (List.nodup_cons.mp nd).2 fun z hz => (List.mem_erase_of_ne (fun (e : z = x) => (List.nodup_cons.mp nd).1 (e ▸ hz))).mpr (h z (List.mem_cons_of_mem _ hz))
    rw [List.length_erase_of_mem hx] at this
    have : 0 < b.length := List.length_pos_of_mem hx
    rw [List.length_cons]
    omega
theorem lexOf.len {n : Int} {zs fs ws : List Str} (h : lexOf n zs fs ws) : fs.length ≤ zs.length := by
  have := nd_len h.1.nd fun f hf => (h.2 f).mp hf
  rw [List.length_map] at this
  exact this
theorem lexOf.uniq {n : Int} {zs zs' fs ws gs us : List Str} (h : lexOf n zs fs ws) (h' : lexOf n zs' gs us) (hm : ∀ z, z ∈ zs ↔ z ∈ zs') : fs = gs :=
  sorted_uniq h.1.so h'.1.so h.1.nd h'.1.nd fun f => by
    rw [h.2 f, h'.2 f, List.mem_map, List.mem_map]
    exact ⟨fun ⟨a, b, c⟩ => ⟨a, (hm a).mp b, c⟩, fun ⟨a, b, c⟩ => ⟨a, (hm a).mpr b, c⟩⟩
theorem sign_lt : ∀ c ∈ (44 :: wordSigns.cps.toList), c < 200 := by decide +kernel
theorem isW_F {z : Str} (h : isW z = true) : isF (.str z) = true := by
  show PyData.strOk z = true
  unfold PyData.strOk
  rw [← Array.all_toList, List.all_eq_true]
  intro x hx
  exact decide_eq_true (Nat.lt_trans (sign_lt x (isW_mem h x hx)) (by decide))
theorem isF_ms {l : List Str} (h : ∀ z ∈ l, isW z = true ∧ z.length ≤ 1000) : (ms l).all isF = true := by
  rw [List.all_eq_true]
  intro v hv
  obtain ⟨z, hz, rfl⟩ := List.mem_map.mp hv
  exact isW_F (h z hz).1
theorem Lex.put {K : PySem.W.Frag} {H : Hp} {x a : Addr} {n : Int} {fs ws : List Str} {xs ys : List V} (h : Lex K H x n fs ws) (ha : H a = some (.lst xs)) : Lex K (upd H a (.lst ys)) x n fs ws := by
  obtain ⟨o, dx, p, q, h1, ⟨ob, h2, d2⟩, ⟨ob3, h3, d3⟩⟩ := h
  refine ⟨o, dx, p, q, ?_, ⟨ob, ?_, d2⟩, ⟨ob3, ?_, d3⟩⟩
  · rw [upd_ne (ne_of h1 ha (by intro z; cases z))]
    exact h1
  · rw [upd_ne (ne_of h2 ha (by intro z; cases z))]
    exact h2
  · rw [upd_ne (ne_of h3 ha (by intro z; cases z))]
    exact h3
theorem Lex.ins {K : PySem.W.Frag} {H : Hp} {x : Addr} {n : Int} {fs ws : List Str} (h : Lex K H x n fs ws) : ∃ dx fl, H x = some (.ins (He.ga K "Lexicon") dx fl) := by
  obtain ⟨o, dx, p, q, h1, _⟩ := h
  exact ⟨dx, _, h1⟩
/-- two lexicons and their rows of forms -/
structure TwoA where
  (pl pf x y p q : Addr) (n m : Int) (fs ws gs us : List Str)
structure Two (K : PySem.W.Frag) (H : Hp) (t : TwoA) : Prop where
  hl : H t.pl = some (.lst [.ref t.x, .ref t.y])
  hf : H t.pf = some (.lst [.ref t.p, .ref t.q])
  hx : Lex K H t.x t.n t.fs t.ws
  hy : Lex K H t.y t.m t.gs t.us
  hp : H t.p = some (.lst (ms t.fs))
  hq : H t.q = some (.lst (ms t.gs))
theorem Two.same {K : PySem.W.Frag} {H H' : Hp} {t : TwoA} (h : Two K H t) (s : Same H H') : Two K H' t := ⟨s _ _ h.hl, s _ _ h.hf, h.hx.same s, h.hy.same s, s _ _ h.hp, s _ _ h.hq⟩
theorem Two.kp {K : PySem.W.Frag} {b : Addr} {H H' : Hp} {t : TwoA} (h : Two K H t) (B : Bag H b) (k : Kp b H H') : Two K H' t := ⟨k.lst B h.hl, k.lst B h.hf, h.hx.kp B k, h.hy.kp B k, k.lst B h.hp, k.lst B h.hq⟩
def spAll (K : PySem.W.Frag) : Sp := fun vs H Q _ => ∃ (b pn pa : Addr) (t : TwoA) (l : List Str), vs = [.ref b, .ref t.pl, .ref t.pf, .ref pn, .ref pa] ∧ Bag H b ∧ Two K H t ∧ H pn = some (.lst [.int t.n, .int t.m]) ∧ H pa = some (.lst (ms l)) ∧ (∀ z ∈ l, isW z = true ∧ z.length ≤ 1000) ∧ ∀ H', Kp b H H' → Q (.bl true) H'
def spJoin (K : PySem.W.Frag) : Sp := fun vs H Q _ => ∃ (pr r0 r1 : Addr) (t : TwoA) (l l' : List Str), vs = [.ref t.pl, .ref t.pf, .int t.n, .ref pr] ∧ Two K H t ∧ t.m = t.n ∧ H pr = some (.lst [.ref r0, .ref r1]) ∧ H r0 = some (.lst (ms l)) ∧ H r1 = some (.lst (ms l')) ∧ (∀ z ∈ l, isW z = true ∧ z.length ≤ 1000) ∧ (∀ z ∈ l', isW z = true ∧ z.length ≤ 1000) ∧ l.length ≤ 200 ∧ l'.length ≤ 200 ∧
  lexOf t.n l t.fs t.ws ∧ lexOf t.n l' t.gs t.us ∧ ∀ H', Same H H' → Q (.bl true) H'
def spBuilt (K : PySem.W.Frag) : Sp := fun vs H Q _ => ∃ (n : Int) (p : Addr) (l : List Str) (w : Int), vs = [.int n, .ref p, .int w] ∧ 1 ≤ n ∧ n ≤ 3 ∧ H p = some (.lst (ms l)) ∧ l.length ≤ 200 ∧ (∀ z ∈ l, isW z = true ∧ z.length ≤ 1000) ∧ ∀ x H' fs ws, Same H H' → lexOf n l fs ws → Lex K H' x n fs ws → Q (.ref x) H'
def spFinds (K : PySem.W.Frag) : Sp := fun vs H Q _ => ∃ (x p : Addr) (n : Int) (fs ws : List Str) (z : Str), vs = [.ref x, .ref p, .int n, .str z] ∧ Lex K H x n fs ws ∧ H p = some (.lst (ms fs)) ∧ isW z = true ∧ z.length ≤ 1000 ∧ ∀ H', Same H H' → Q (.bl true) H'
theorem FirstBad.same {H H' : Hp} (s : Same H H') : ∀ {l : List V} {w : V}, FirstBad H l w → FirstBad H' l w
  | _, _, .here h => .here (h.same s)
  | _, _, .there h r => .there h (r.same s)
theorem FirstBad.kp {b : Addr} {H H' : Hp} (B : Bag H b) (k : Kp b H H') : ∀ {l : List V} {w : V}, FirstBad H l w → FirstBad H' l w
  | _, _, .here h => .here (h.kp B k)
  | _, _, .there h r => .there h (r.kp B k)
theorem BadV.kp {b : Addr} {H H' : Hp} {v : V} (B : Bag H b) (k : Kp b H H') (h : BadV H v) : BadV H' v := by
  rcases h with ⟨t, h1, h2⟩ | h | h
  · exact .inl ⟨t, tyv_kp B k h1, h2⟩
  · exact .inr (.inl h)
  · exact .inr (.inr h)
theorem FirstBad.pre {H : Hp} {l : List V} {w : V} (h : FirstBad H l w) : ∀ {zs : List Str}, (∀ z ∈ zs, isW z = true ∧ z.length ≤ 1000) → FirstBad H (ms zs ++ l) w
  | [], _ => h
  | z :: zs, hz => .there ⟨rfl, (hz z List.mem_cons_self).2, (hz z List.mem_cons_self).1⟩ (h.pre fun y hy => hz y (List.mem_cons_of_mem _ hy))
def spMade (K : PySem.W.Frag) : Sp := fun vs H Q _ => ∃ (v : V) (pw : Addr) (l : List V), vs = [v, .ref pw] ∧ SqA K H pw l ∧ l.length ≤ 500 ∧
  ((∃ d, BadV H v ∧ Shw K H v d ∧ ∀ p H', Same H H' → H' p = some (.lst [.str "version", .str d.shown]) → Q (.ref p) H') ∨
   (∃ n w d, GoodV v n ∧ FirstBad H l w ∧ Shw K H w d ∧ ∀ p H', Same H H' → H' p = some (.lst [.str "word", .str d.shown]) → Q (.ref p) H'))
def spRef (K : PySem.W.Frag) : Sp := fun vs H Q _ => ∃ (b : Addr) (n : Int) (p : Addr) (l : List Str), vs = [.ref b, .int n, .ref p] ∧ Bag H b ∧ 1 ≤ n ∧ n ≤ 3 ∧ H p = some (.lst (ms l)) ∧ l.length ≤ 40 ∧ (∀ z ∈ l, isW z = true ∧ z.length ≤ 20) ∧ ∀ H', Kp b H H' → Q (.bl true) H'
def spLaw (K : PySem.W.Frag) : Sp := fun vs H Q _ => ∃ (a : Addr) (ns : List Int), vs = [.ref a] ∧ SqL K H a (ns.map V.int) ∧ ns.length ≤ 1000 ∧ ∀ H', Q (.bl true) H'
local macro_rules | `(tactic| walk_at "rd") => `(tactic| try simp only [cx_K, L2.start, List.map_cons, List.map_nil, List.length_cons, List.length_nil, List.cons_append, List.nil_append, List.append_nil, Nat.reduceAdd, Nat.reduceSub, List.replicate, tSeq, tIfS, tTest, tB, tOp, tVar, tC, tAsg, gName, tRet, tRetN, tDrop, tCB, tCons, tNil, rI0, rI, tNext, tNot, tAnd, tOr, tIf, tAndV, tOrV, tNotV, tUn, rU, tDGet, sDPut, tCall, tCallS, tTup, tLst, tSl, tPart, tNoPart, rSlS, tM0, tM1, rIxLt, rIxTt, rIxSt, rLenL, rLenT, rLenS, rIntI, rOrd, rSlLt, tBM, tBM0, rAppend, rExtend, rRep, rCat, rIxQ, rLenQ, rTupQ, rTupL, rMin2, rAnd255, rNonIs, rNonNot, rNeL, rNeT, rEqT, rIns, rPopAt, rSetL, gSub, rExtQ, rSlQ, iList, iTup, iRng1, iRng2, iStr, tFld, sFld, gFld, gTup, tMethT, tMakeT, tCallE, rIntB, rOwnEq, rRepr, rIsI, rLenO, rInO, rNotInO, rBinO, rNeO, rIxO, rListO, rIterT, rSortS, Fx.rInS, rIdxT, rIdxL, rListD, tRevL, rIxF, rLenF, rInF, rIdxF, tBMF, rEqF, rTupF, tMake, tMeth, tChain, rLj, rJn, rIsBl, rNoBl, tRaiseFx, tMkFx, tAug, ipI, tCont, tBreak, gCons, gNil, rLstL, rLstT, rAllL, rAnyL, rMulS, Fx.rIsB, tYes, wipe, rEqL, rEq, rNe, scal, tyv_non, tyv_bl, tyv_int, tyv_str, kb_int_int, kb_int_bool, kb_bool_int, kb_bool_bool, kb_str_str, kb_int_str, kb_bool_str, kb_none_str, kb_list_str, kb_tuple_str, kb_dict_str, kb_tuple_tuple, kb_list_list, List.getElem?_cons_zero, List.getElem?_cons_succ, List.set_cons_zero, List.set_cons_succ, Option.some.injEq, V.int.injEq, V.str.injEq, V.bl.injEq, V.ref.injEq, V.ty.injEq, HO.lst.injEq, HO.tup.injEq, List.cons.injEq, reduceCtorEq, false_and, and_false, or_false, false_or, exists_false, and_true, true_and, exists_and_left, exists_eq_left, exists_eq_left', exists_eq, exists_eq', and_assoc, ite_dec, ite_ndec, upd_same, if_true, Bool.false_eq_true, if_false, Bool.not_true, Bool.not_false])
section
variable {P : Program} {w : World} {K : PySem.W.Frag} {mg : Str → Option Value} {base : Heap}
theorem ok_is_integer (S : Src K mg "is_integer" s_is_integer) (T : Tx P K mg)   : Cal P w K mg base CX0 1 "is_integer" ["thing", "low", "high"] spIsInt := by
  refine S.cal sc_is_integer bn_is_integer (fun vs H Q E h => ?_) (fun f cdv A outer s H vs Q E hr h => ?_)
  · first | (obtain ⟨rfl, _⟩ := h; rfl) | (obtain ⟨_, rfl, _⟩ := h; rfl) | (obtain ⟨_, _, rfl, _⟩ := h; rfl) | (obtain ⟨_, _, _, rfl, _⟩ := h; rfl) | (obtain ⟨_, _, _, _, rfl, _⟩ := h; rfl) | (obtain ⟨_, _, _, _, _, rfl, _⟩ := h; rfl) | (obtain ⟨_, _, _, _, _, _, rfl, _⟩ := h; rfl) | (obtain ⟨_, _, _, _, _, _, _, rfl, _⟩ := h; rfl) | (obtain ⟨_, _, _, _, _, _, _, _, rfl, _⟩ := h; rfl) | (obtain ⟨_, _, _, _, _, _, _, _, _, rfl, _⟩ := h; rfl)
  · skip
    refine ⟨_, (pss_one (ps_ret (pe_and (Fx.pe_cB Fx.is_B T.b_isinstance (by decide +kernel) (Fx.pa_c (pv 0) (Fx.pa_c (pe_bltn (v := .ty "int") (by rfl) T.b_int (by decide +kernel) rfl) pa_nil))) (pe_and (pe_not (Fx.pe_cB Fx.is_B T.b_isinstance (by decide +kernel) (Fx.pa_c (pv 0) (Fx.pa_c (pe_bltn (v := .ty "bool") (by rfl) T.b_bool (by decide +kernel) rfl) pa_nil)))) (pe_one (pe_chain op_le op_le (pv 1) (pv 0) (pv 2))))))), ?_⟩
    obtain ⟨v, rfl, h⟩ := h
    walk_at "rd"
    rcases h with ⟨n, ⟨rfl, h1, h3⟩, q⟩ | ⟨hb, q⟩
    · refine ⟨_, tyv_int, _, kb_int_int, ?_⟩
      rw [if_pos rfl]
      refine ⟨_, tyv_int, _, kb_int_bool, ite_i (fun _ => ?_) (fun h => absurd rfl h)⟩
      refine ⟨n, rfl, ?_⟩
      rw [if_pos h1]
      refine ⟨n, rfl, ?_⟩
      rw [decide_eq_true h3]
      exact q
    · rcases hb with ⟨t, ht, hk⟩ | ⟨b, rfl⟩ | ⟨i, rfl, hn⟩
      · exact ⟨t, ht, _, hk, q⟩
      · refine ⟨_, tyv_bl, _, kb_bool_int, ?_⟩
        rw [if_pos rfl]
        exact ⟨_, tyv_bl, _, kb_bool_bool, q⟩
      · refine ⟨_, tyv_int, _, kb_int_int, ?_⟩
        rw [if_pos rfl]
        refine ⟨_, tyv_int, _, kb_int_bool, ite_i (fun _ => ?_) (fun h => absurd rfl h)⟩
        refine ⟨i, rfl, ite_i (fun h1 => ⟨i, rfl, ?_⟩) (fun _ => q)⟩
        rw [decide_eq_false (by omega)]
        exact q
end
section
variable {P : Program} {w : World} {K : PySem.W.Frag} {mg : Str → Option Value} {base : Heap}
theorem ok_Version_MU_initU {f0 : Addr} {fd : FuncData} (F : FunD K "__init__" "Version.__init__" (defArgs s_Version_MU_initU) (defBody s_Version_MU_initU) (defScope s_Version_MU_initU) [] [] f0 fd) (M : Mk K (He.ga K "Version") f0) (T : Tx P K mg) (C_is_integer : Cal P w K mg base CX0 1 "is_integer" ["thing", "low", "high"] spIsInt)  : CalI P w K mg base (L2.CX P w) 3 (He.ga K "Version") ["self", "version"] (spVer K) := by
  refine ⟨f0, fd, M, F.bindsN bn_Version_MU_initU, okX F sc_Version_MU_initU (fun vs H Q E h => ?_) (fun f cdv A outer s H vs Q E hr h => ?_)⟩
  · first | (obtain ⟨rfl, _⟩ := h; rfl) | (obtain ⟨_, rfl, _⟩ := h; rfl) | (obtain ⟨_, _, rfl, _⟩ := h; rfl) | (obtain ⟨_, _, _, rfl, _⟩ := h; rfl) | (obtain ⟨_, _, _, _, rfl, _⟩ := h; rfl) | (obtain ⟨_, _, _, _, _, rfl, _⟩ := h; rfl) | (obtain ⟨_, _, _, _, _, _, rfl, _⟩ := h; rfl) | (obtain ⟨_, _, _, _, _, _, _, rfl, _⟩ := h; rfl) | (obtain ⟨_, _, _, _, _, _, _, _, rfl, _⟩ := h; rfl) | (obtain ⟨_, _, _, _, _, _, _, _, _, rfl, _⟩ := h; rfl)
  · skip
    refine ⟨_, (pss_cons (ps_if (pt_not (pt_val (Fx.pe_cal C_is_integer (hr.mono (by decide)) pass0 (Fx.pa_c (pv 1) (Fx.pa_c pe_int (Fx.pa_c pe_int pa_nil)))))) (pss_one (Fx.ps_raiseFx rfl T.x_BadVersion T.g_BadVersion T.b_super hr (takes_of rfl rfl rfl rfl) (Fx.pa_c (pv 1) pa_nil))) pss_nil)
        (pss_cons (ps_fld (pv 0) (pv 1) rfl)
        (pss_one (ps_asg (pe_ix ix_tup (Fx.pe_cst T.c_SIZES) (pe_op op_sub (pv 1) pe_int) (fun _ _ => rfl)) (pg_tup rfl (pgs_cons (Fx.pg_fld (pv 0)) (pgs_cons (Fx.pg_fld (pv 0)) (pgs_cons (Fx.pg_fld (pv 0)) (pgs_cons (Fx.pg_fld (pv 0)) (pgs_cons (Fx.pg_fld (pv 0)) (pgs_cons (Fx.pg_fld (pv 0)) pgs_nil))))))))))), ?_⟩
    obtain ⟨x, dx, v, rfl, hx, h⟩ := h
    refine seqI fun K1 k1 => ?_
    walk_at "rd"
    refine ⟨v, rfl, ?_⟩
    rcases h with ⟨n, ⟨rfl, h1, h3⟩, q⟩ | ⟨hb, q⟩
    · refine .inl ⟨n, ⟨rfl, h1, h3⟩, true, rfl, ?_⟩
      rw [if_neg (by decide)]
      refine k1 _ _ ?_
      clear k1
      obtain ⟨as, hA, hr⟩ := tupsB_ok T.t_SIZES
      obtain ⟨i, a1, a2, a3, a4, a5, a6, ei, es, ev⟩ : ∃ (i : Nat) (a1 a2 a3 a4 a5 a6 : Int), n - 1 = (i : Int) ∧ sizes[i]? = some [a1, a2, a3, a4, a5, a6] ∧ verF n = verL n a1 a2 a3 a4 a5 a6 := by
        rcases (by omega : n = 1 ∨ n = 2 ∨ n = 3) with rfl | rfl | rfl
        · exact ⟨0, 2, 1, 16, 1, 8, 32768, rfl, rfl, rfl⟩
        · exact ⟨1, 3, 2, 24, 2, 12, 8388608, rfl, rfl, rfl⟩
        · exact ⟨2, 4, 4, 32, 2, 16, 2147483648, rfl, rfl, rfl⟩
      obtain ⟨a, ha, hs⟩ := hr i _ es
      walk_at "rd"
      rw [ei]
      refine ⟨_, _, _, hx, T.cl_Version, T.n_Version_number, by decide, ?_⟩
      have l1 := putF_len "number" (.int n) [] 0 (Nat.le_refl _)
      have l2 := putF_len "width" (.int a1) _ _ l1
      have l3 := putF_len "scale" (.int a2) _ _ l2
      have l4 := putF_len "marks" (.int a3) _ _ l3
      have l5 := putF_len "link" (.int a4) _ _ l4
      have l6 := putF_len "cut" (.int a5) _ _ l5
      refine ⟨_, _, _, _, rfl, rfl, hA _, atI_get (by rw [List.getElem?_map, ha]; rfl), a, rfl, _, hs _, rfl, _, _, rfl, _, _, _, upd_same, T.cl_Version, T.n_Version_width, by omega, ?_⟩
      refine ⟨_, _, rfl, _, _, _, rfl, T.cl_Version, T.n_Version_scale, by omega, _, _, rfl, _, _, _, rfl, T.cl_Version, T.n_Version_marks, by omega, _, _, rfl, _, _, _, rfl, T.cl_Version, T.n_Version_link, by omega, _, _, rfl, _, _, _, rfl, T.cl_Version, T.n_Version_cut, by omega, _, _, rfl, _, _, _, rfl, T.cl_Version, T.n_Version_half, by omega, rfl, ?_⟩
      refine q _ (fun b o hb e => ?_) ?_
      · simp only [upd_ne hb]
        exact e
      · rw [upd_same, ev]
        rfl
    · refine .inr ⟨hb, false, rfl, ite_i (fun _ => ?_) (fun h => absurd rfl h)⟩
      intro d nd
      exact q d _ (same_new nd) nd upd_same
end
section
variable {P : Program} {w : World} {K : PySem.W.Frag} {mg : Str → Option Value} {base : Heap}
theorem ok_is_word (S : Src K mg "is_word" s_is_word) (T : Tx P K mg)   : Cal P w K mg base CX0 1 "is_word" ["thing"] spIsWord := by
  refine S.cal sc_is_word bn_is_word (fun vs H Q E h => ?_) (fun f cdv A outer s H vs Q E hr h => ?_)
  · first | (obtain ⟨rfl, _⟩ := h; rfl) | (obtain ⟨_, rfl, _⟩ := h; rfl) | (obtain ⟨_, _, rfl, _⟩ := h; rfl) | (obtain ⟨_, _, _, rfl, _⟩ := h; rfl) | (obtain ⟨_, _, _, _, rfl, _⟩ := h; rfl) | (obtain ⟨_, _, _, _, _, rfl, _⟩ := h; rfl) | (obtain ⟨_, _, _, _, _, _, rfl, _⟩ := h; rfl) | (obtain ⟨_, _, _, _, _, _, _, rfl, _⟩ := h; rfl) | (obtain ⟨_, _, _, _, _, _, _, _, rfl, _⟩ := h; rfl) | (obtain ⟨_, _, _, _, _, _, _, _, _, rfl, _⟩ := h; rfl)
  · skip
    refine ⟨_, (pss_cons (ps_if (pt_not (pt_val (Fx.pe_cB Fx.is_B T.b_isinstance (by decide +kernel) (Fx.pa_c (pv 0) (Fx.pa_c (pe_bltn (v := .ty "str") (by rfl) T.b_str (by decide +kernel) rfl) pa_nil))))) (pss_one (ps_ret pe_bl)) pss_nil)
        (pss_cons (ps_if (pt_cmpR op_eq (pv 0) pe_str (nomark _)) (pss_one (ps_ret pe_bl)) pss_nil)
        (pss_one (ps_ret (pe_and (pe_chain op_le op_le pe_int (Fx.pe_cB Fx.len_S T.b_len (by decide +kernel) (Fx.pa_c (pv 0) pa_nil)) pe_int) (pe_one (Fx.pe_cB (Fx.all_L rfl) T.b_all (by decide +kernel) (Fx.pa_c (pe_lc (own := [("sign", 1)]) rfl sc_is_word.nd (pi_str (pv 0)) (blkOk_by (N := N_is_word) (sc := defScope s_is_word) (by decide +kernel)) (fun _ _ _ _ _ => (pg_name (i := 1) sc_is_word.nd rfl (Or.inl rfl))) (fun _ _ _ _ _ => pts_nil) (fun _ _ _ _ _ => (pe_cmpR op_in_sign (pv 1) (Fx.pe_cst T.c_WORD_SIGNS) rfl))) pa_nil)))))))), ?_⟩
    obtain ⟨v, rfl, h⟩ := h
    refine seqI fun K1 k1 => ?_
    walk_at "rd"
    rcases h with ⟨z, rfl, hz, q⟩ | ⟨t, ht, hk, q⟩
    · refine ⟨_, tyv_str, _, kb_str_str, ?_⟩
      refine ite_i (fun h => absurd h (by decide)) (fun _ => k1 _ _ ?_)
      clear k1
      refine seqI fun K1 k1 => ?_
      walk_at "rd"
      refine ite_i (fun h0 => ?_) (fun h0 => k1 _ _ ?_)
      · have e : isW z = true := by unfold isW; rw [decide_eq_true h0]; rfl
        rw [← e]
        exact q H (Same.refl H)
      clear k1
      have e0 : isW z = (decide (1 ≤ z.length) && decide (z.length ≤ 20) && z.cps.toList.all fun c => decide (c ∈ wordSigns.cps.toList)) := by unfold isW; rw [decide_eq_false h0]; rfl
      rw [e0] at q
      have lz : z.cps.toList.length = z.length := Array.length_toList
      walk_at "rd"
      refine ⟨sz (by omega), ite_i (fun h1 => ite_i (fun h2 => ?_) (fun h2 => ?_)) (fun h1 => ?_)⟩
      · refine ⟨.str z, rfl, z, rfl, fun D nD => ?_⟩
        refine lc_S (z := z) (fun i H2 => H2 = upd H D (.lst (((z.cps.toList.take i).map fun c => decide (c ∈ wordSigns.cps.toList)).map V.bl))) rfl ?_ ?_
        · rintro i c H2 hc rfl
          refine ⟨rfl, ?_⟩
          walk_at "rd"
          refine ⟨c, rfl, ?_, ?_⟩
          · rw [List.length_map, List.length_map, List.length_take]
            exact Nat.lt_of_lt_of_le (by omega : _ < 2000) (by decide)
          · rw [upd_upd, List.take_add_one, hc]
            simp [wordSigns]
        · rintro H2 rfl
          refine ⟨D, rfl, _, upd_same, ?_⟩
          rw [List.take_length]
          have e1 : ((z.cps.toList.map fun c => decide (c ∈ wordSigns.cps.toList)).all id) = (decide (1 ≤ z.length) && decide (z.length ≤ 20) && z.cps.toList.all fun c => decide (c ∈ wordSigns.cps.toList)) := by
            rw [decide_eq_true (by omega : 1 ≤ z.length), decide_eq_true (by omega : z.length ≤ 20), List.all_map]
            rfl
          rw [e1]
          exact q _ (same_new nD)
      · rw [decide_eq_false (by omega : ¬ z.length ≤ 20), Bool.and_false, Bool.false_and] at q
        exact q H (Same.refl H)
      · rw [decide_eq_false (by omega : ¬ 1 ≤ z.length), Bool.false_and, Bool.false_and] at q
        exact q H (Same.refl H)
    · exact ⟨t, ht, _, hk, ite_i (fun _ => q) (fun h => absurd rfl h)⟩
end
section
variable {P : Program} {w : World} {K : PySem.W.Frag} {mg : Str → Option Value} {base : Heap}
theorem ok_codes (S : Src K mg "codes" s_codes) (T : Tx P K mg)   : Cal P w K mg base CX0 1 "codes" ["sign"] spCodes := by
  refine S.cal sc_codes bn_codes (fun vs H Q E h => ?_) (fun f cdv A outer s H vs Q E hr h => ?_)
  · first | (obtain ⟨rfl, _⟩ := h; rfl) | (obtain ⟨_, rfl, _⟩ := h; rfl) | (obtain ⟨_, _, rfl, _⟩ := h; rfl) | (obtain ⟨_, _, _, rfl, _⟩ := h; rfl) | (obtain ⟨_, _, _, _, rfl, _⟩ := h; rfl) | (obtain ⟨_, _, _, _, _, rfl, _⟩ := h; rfl) | (obtain ⟨_, _, _, _, _, _, rfl, _⟩ := h; rfl) | (obtain ⟨_, _, _, _, _, _, _, rfl, _⟩ := h; rfl) | (obtain ⟨_, _, _, _, _, _, _, _, rfl, _⟩ := h; rfl) | (obtain ⟨_, _, _, _, _, _, _, _, _, rfl, _⟩ := h; rfl)
  · skip
    refine ⟨_, (pss_cons (ps_set (i := 1) sc_codes.nd rfl (Or.inl rfl) (pe_m1 PySem.F.slot_str_find PySem.F.type_str_find mt_find (Fx.pe_cst T.c_ROW1) (pv 0)))
        (pss_cons (ps_if (pt_cmpR op_ge (pv 1) pe_int (nomark _)) (pss_one (ps_ret (pe_tup (Fx.pa_c (pv 1) pa_nil)))) pss_nil)
        (pss_cons (ps_set (i := 1) sc_codes.nd rfl (Or.inl rfl) (pe_m1 PySem.F.slot_str_find PySem.F.type_str_find mt_find (Fx.pe_cst T.c_ROW2) (pv 0)))
        (pss_cons (ps_if (pt_cmpR op_ge (pv 1) pe_int (nomark _)) (pss_one (ps_ret (pe_tup (Fx.pa_c pe_int (Fx.pa_c (pv 1) pa_nil))))) pss_nil)
        (pss_cons (ps_set (i := 1) sc_codes.nd rfl (Or.inl rfl) (pe_m1 PySem.F.slot_str_find PySem.F.type_str_find mt_find (Fx.pe_cst T.c_ROW3) (pv 0)))
        (pss_cons (ps_if (pt_cmpR op_ge (pv 1) pe_int (nomark _)) (pss_one (ps_ret (pe_tup (Fx.pa_c pe_int (Fx.pa_c (pv 1) pa_nil))))) pss_nil)
        (pss_one (ps_ret (pe_tup (Fx.pa_c pe_int (Fx.pa_c (pe_op op_fdiv (Fx.pe_cB Fx.ord_S T.b_ord (by decide +kernel) (Fx.pa_c (pv 0) pa_nil)) pe_int) (Fx.pa_c (pe_op op_andM (Fx.pe_cB Fx.ord_S T.b_ord (by decide +kernel) (Fx.pa_c (pv 0) pa_nil)) pe_int) pa_nil)))))))))))), ?_⟩
    obtain ⟨c, rfl, q⟩ := h
    walk_at "rd"
    have fin : ∀ (p : Addr) (xs : List V), xs = (codeL c).map V.int → H p = none → Q (.ref p) (upd H p (.tup xs)) := fun p xs e np => q p _ (same_new np) np (by rw [upd_same, e])
    refine ite_i (fun h1 => ⟨by decide, fun p np => fin p _ ?_ np⟩) (fun h1 => ite_i (fun h2 => ⟨by decide, fun p np => fin p _ ?_ np⟩) (fun h2 => ite_i (fun h3 => ⟨by decide, fun p np => fin p _ ?_ np⟩) (fun h3 => ⟨rfl, ⟨by decide, by decide⟩, rfl, 4, by decide, by decide, fun p np => fin p _ ?_ np⟩)))
    · unfold codeL
      rw [if_pos (show 0 ≤ Txt.find rowA (S1 c) from h1)]
      rfl
    · unfold codeL
      rw [if_neg (show ¬ 0 ≤ Txt.find rowA (S1 c) from h1), if_pos (show 0 ≤ Txt.find rowB (S1 c) from h2)]
      rfl
    · unfold codeL
      rw [if_neg (show ¬ 0 ≤ Txt.find rowA (S1 c) from h1), if_neg (show ¬ 0 ≤ Txt.find rowB (S1 c) from h2), if_pos (show 0 ≤ Txt.find rowC (S1 c) from h3)]
      rfl
    · unfold codeL
      rw [if_neg (show ¬ 0 ≤ Txt.find rowA (S1 c) from h1), if_neg (show ¬ 0 ≤ Txt.find rowB (S1 c) from h2), if_neg (show ¬ 0 ≤ Txt.find rowC (S1 c) from h3)]
      rfl
end
section
variable {P : Program} {w : World} {K : PySem.W.Frag} {mg : Str → Option Value} {base : Heap}
theorem ok_plain_codes (S : Src K mg "plain_codes" s_plain_codes) (T : Tx P K mg) (C_codes : Cal P w K mg base CX0 1 "codes" ["sign"] spCodes)  : Cal P w K mg base CX0 2 "plain_codes" ["text"] spPlain := by
  refine S.cal sc_plain_codes bn_plain_codes (fun vs H Q E h => ?_) (fun f cdv A outer s H vs Q E hr h => ?_)
  · first | (obtain ⟨rfl, _⟩ := h; rfl) | (obtain ⟨_, rfl, _⟩ := h; rfl) | (obtain ⟨_, _, rfl, _⟩ := h; rfl) | (obtain ⟨_, _, _, rfl, _⟩ := h; rfl) | (obtain ⟨_, _, _, _, rfl, _⟩ := h; rfl) | (obtain ⟨_, _, _, _, _, rfl, _⟩ := h; rfl) | (obtain ⟨_, _, _, _, _, _, rfl, _⟩ := h; rfl) | (obtain ⟨_, _, _, _, _, _, _, rfl, _⟩ := h; rfl) | (obtain ⟨_, _, _, _, _, _, _, _, rfl, _⟩ := h; rfl) | (obtain ⟨_, _, _, _, _, _, _, _, _, rfl, _⟩ := h; rfl)
  · skip
    refine ⟨_, (pss_cons (ps_set (i := 1) sc_plain_codes.nd rfl (Or.inl rfl) (pe_lst pa_nil))
        (pss_cons (ps_for PassesOwn.never rfl (pi_str (pv 0)) (pg_name (i := 2) sc_plain_codes.nd rfl (Or.inl rfl)) (pss_one (ps_expr (pe_bm PySem.F.plainAttrs_list PySem.F.slot_list_extend PySem.F.type_list_extend mt_extQ (pv 1) (Fx.pa_c (Fx.pe_cal C_codes (hr.mono (by decide)) pass0 (Fx.pa_c (pv 2) pa_nil)) pa_nil)))))
        (pss_one (ps_ret (pv 1))))), ?_⟩
    obtain ⟨z, rfl, hz, q⟩ := h
    refine seqI fun K1 k1 => ?_
    walk_at "rd"
    refine ⟨by decide, fun p np => k1 _ _ ?_⟩
    clear k1
    refine seqI fun K1 k1 => ?_
    refine ⟨.str z, rfl, z, rfl, for_S (z := z) (fun i σ H' => ∃ v, σ = [some (.str z), some (.ref p), v] ∧ H' p = some (.lst (mi (((z.cps.toList.take i).map codeL).flatten))) ∧ Same H H') ⟨none, rfl, upd_same, same_new np⟩ ?_ ?_⟩
    · rintro i c σ H' hc ⟨v, rfl, hp, sH⟩
      clear k1
      walk_at "rd"
      refine ⟨tyL hp, c, rfl, fun p1 H1 s1 n1 h1 => ⟨p1, rfl, _, s1 _ _ hp, _, .inr h1, ?_, ?_, Same.put (sH.trans s1) np⟩⟩
      · have l1 := flat_len (z.cps.toList.take i)
        have l2 := codeL_len c
        rw [List.length_take] at l1
        have lz : z.cps.toList.length ≤ 1000 := by rw [Array.length_toList]; exact hz
        rw [mi_len, List.length_map]
        exact sz (by omega)
      · rw [List.take_add_one, hc]
        simp
    · rintro σ H' ⟨v, rfl, hp, sH⟩
      refine k1 _ _ ?_
      walk_at "rd"
      refine q p H' sH np ?_
      rw [hp, List.take_length]
      rfl
end
section
variable {P : Program} {w : World} {K : PySem.W.Frag} {mg : Str → Option Value} {base : Heap}
theorem ok_cut_form (S : Src K mg "cut_form" s_cut_form) (T : Tx P K mg) (C_Version_MU_initU : CalI P w K mg base (L2.CX P w) 3 (He.ga K "Version") ["self", "version"] (spVer K)) (C_is_word : Cal P w K mg base CX0 1 "is_word" ["thing"] spIsWord) (C_plain_codes : Cal P w K mg base CX0 2 "plain_codes" ["text"] spPlain)  : Cal P w K mg base (L2.CX P w) 5 "cut_form" ["version", "word"] (spCutForm K) := by
  refine S.calX sc_cut_form bn_cut_form (fun vs H Q E h => ?_) (fun f cdv A outer s H vs Q E hr h => ?_)
  · first | (obtain ⟨rfl, _⟩ := h; rfl) | (obtain ⟨_, rfl, _⟩ := h; rfl) | (obtain ⟨_, _, rfl, _⟩ := h; rfl) | (obtain ⟨_, _, _, rfl, _⟩ := h; rfl) | (obtain ⟨_, _, _, _, rfl, _⟩ := h; rfl) | (obtain ⟨_, _, _, _, _, rfl, _⟩ := h; rfl) | (obtain ⟨_, _, _, _, _, _, rfl, _⟩ := h; rfl) | (obtain ⟨_, _, _, _, _, _, _, rfl, _⟩ := h; rfl) | (obtain ⟨_, _, _, _, _, _, _, _, rfl, _⟩ := h; rfl) | (obtain ⟨_, _, _, _, _, _, _, _, _, rfl, _⟩ := h; rfl)
  · skip
    refine ⟨_, (pss_cons (ps_set (i := 2) sc_cut_form.nd rfl (Or.inl rfl) (Fx.pe_fldK (K := K) rfl (Fx.pe_mk C_Version_MU_initU (hr.mono (by decide)) T.g_Version (passes_call (takes_of rfl rfl rfl rfl) (fun _ _ _ _ z => z)) (Fx.pa_c (pv 0) pa_nil)) rfl))
        (pss_cons (ps_if (pt_not (pt_val (Fx.pe_cal C_is_word (hr.mono (by decide)) pass0 (Fx.pa_c (pv 1) pa_nil)))) (pss_one (Fx.ps_raiseFx rfl T.x_BadWord T.g_BadWord T.b_super hr (takes_of rfl rfl rfl rfl) (Fx.pa_c (pv 1) pa_nil))) pss_nil)
        (pss_cons (ps_set (i := 3) sc_cut_form.nd rfl (Or.inl rfl) (pe_slice Fx.sl_L (Fx.pe_cal C_plain_codes (hr.mono (by decide)) pass0 (Fx.pa_c (pv 1) pa_nil)) po_none (po_some (pv 2))))
        (pss_one (ps_ret (pe_bm PySem.F.plainAttrs_str PySem.F.slot_str_ljust PySem.F.type_str_ljust Fx.mt_lj (pe_m1 PySem.F.slot_str_join PySem.F.type_str_join Fx.mt_jn pe_str (pe_lc (own := [("code", 4)]) rfl sc_cut_form.nd (pi_list (pv 3)) (blkOk_by (N := N_cut_form) (sc := defScope s_cut_form) (by decide +kernel)) (fun _ _ _ _ _ => (pg_name (i := 4) sc_cut_form.nd rfl (Or.inl rfl))) (fun _ _ _ _ _ => pts_nil) (fun _ _ _ _ _ => (pe_ix Fx.ix_S (Fx.pe_cst T.c_HEX) (pv 4) (fun _ _ => rfl))))) (Fx.pa_c (pv 2) (Fx.pa_c pe_str pa_nil)))))))), ?_⟩
    obtain ⟨v, w, rfl, h⟩ := h
    refine seqI fun K1 k1 => ?_
    walk_at "rd"
    intro x dx nx ndx ne
    have sx : Same H (upd (upd H dx (.own x)) x (.ins (He.ga K "Version") dx [])) := fun b o e => by
      rw [upd_ne (ne_of_none e nx), upd_ne (ne_of_none e ndx)]
      exact e
    refine ⟨x, dx, v, rfl, upd_same, ?_⟩
    rcases h with ⟨hb, q⟩ | ⟨n, hg, hw, q⟩ | ⟨n, z, hg, hw, q⟩
    · exact .inr ⟨hb.same sx, fun d H' s' nd hd => q d H' (sx.trans s') (sx.free nd) hd⟩
    · refine .inl ⟨n, hg, fun H1 hk hx1 => ⟨rfl, _, _, _, hx1, T.cl_Version, T.n_Version_cut, _, rfl, k1 _ _ ?_⟩⟩
      have s1 : Same H H1 := fun b o e => hk b o (ne_of_none e nx) (sx b o e)
      clear k1
      refine seqI fun K1 k1 => ?_
      walk_at "rd"
      refine ⟨w, rfl, ?_⟩
      rcases hw.same s1 with ⟨z, rfl, hz, hw⟩ | ⟨t, ht, hk2⟩
      · refine .inl ⟨z, rfl, hz, fun H2 s2 => ⟨_, rfl, ?_⟩⟩
        rw [hw]
        exact ite_i (fun _ => fun d nd => q d _ ((s1.trans s2).trans (same_new nd)) ((s1.trans s2).free nd) upd_same) (fun h => absurd rfl h)
      · exact .inr ⟨t, ht, hk2, _, rfl, ite_i (fun _ => fun d nd => q d _ (s1.trans (same_new nd)) (s1.free nd) upd_same) (fun h => absurd rfl h)⟩
    · refine .inl ⟨n, hg, fun H1 hk hx1 => ⟨rfl, _, _, _, hx1, T.cl_Version, T.n_Version_cut, _, rfl, k1 _ _ ?_⟩⟩
      have s1 : Same H H1 := fun b o e => hk b o (ne_of_none e nx) (sx b o e)
      clear k1
      refine seqI fun K1 k1 => ?_
      walk_at "rd"
      obtain ⟨rfl, hz, hw⟩ := hw
      refine ⟨_, rfl, .inl ⟨z, rfl, hz, fun H2 s2 => ⟨_, rfl, ?_⟩⟩⟩
      rw [hw]
      refine ite_i (fun h => absurd h (by decide)) (fun _ => k1 _ _ ?_)
      clear k1
      refine seqI fun K1 k1 => ?_
      walk_at "rd"
      refine ⟨z, rfl, hz, fun p H3 s3 np hp => ⟨p, rfl, _, hp, fun p2 n2 => k1 _ _ ?_⟩⟩
      clear k1
      obtain ⟨k, hk, ek⟩ : ∃ k : Nat, k ≤ 16 ∧ 4 * n + 4 = (k : Int) := ⟨(4 * n + 4).toNat, by have := hg.2; omega, by have := hg.2; omega⟩
      unfold cutT at q
      rw [ek] at q
      rw [ek, cutV_hi, mi_take]
      have hin := clist_ok hw
      have s4 := same_new (o := .lst (mi ((clist z).take k))) n2
      have hp2 : (upd H3 p2 (.lst (mi ((clist z).take k)))) p2 = some (.lst (mi ((clist z).take k))) := upd_same
      generalize upd H3 p2 (.lst (mi ((clist z).take k))) = H4 at s4 hp2
      have e0 := cut_eq (clist z) k hk
      rw [Int.toNat_natCast, ← e0] at q
      have hin2 : ∀ x ∈ (clist z).take k, 0 ≤ x ∧ x ≤ 15 := fun x hx => hin x (List.mem_of_mem_take hx)
      have ll : ((clist z).take k).length ≤ 16 := by rw [List.length_take]; omega
      generalize (clist z).take k = cl at *
      refine ⟨⟨_, rfl⟩, .ref p2, rfl, p2, rfl, ⟨_, .inl (.inl hp2)⟩, fun D nD => ?_⟩
      refine lc_list (K := K) (a := p2) (xs := mi cl) (fun i H5 => H5 = upd H4 D (.lst (((cl.take i).map fun c => S1 (hexc c)).map V.str))) rfl (fun i H5 _ e => ?_) ?_ ?_
      · rw [e]
        exact .inl (.inl (same_new nD _ _ hp2))
      · rintro i x H5 hx rfl
        obtain ⟨y, rfl, hy⟩ := mapI_some hx
        have hb := hin2 y (List.mem_of_getElem? hy)
        have hi := (List.getElem?_eq_some_iff.mp hy).1
        refine ⟨rfl, ?_⟩
        walk_at "rd"
        refine ⟨by decide, _, hex_get hb.1 hb.2, ?_, ?_⟩
        · rw [List.length_map, List.length_map, List.length_take]
          exact Nat.lt_of_lt_of_le (by omega : _ < 100) (by decide)
        · rw [upd_upd, List.take_add_one, hy]
          simp
      · rintro H5 rfl
        rw [List.take_of_length_le (by rw [mi_len]; exact Nat.le_refl _)]
        refine ⟨_, D, cl.map fun c => S1 (hexc c), rfl, rfl, upd_same, ?_, rfl, ?_⟩
        · have e1 : ((cl.map fun c => S1 (hexc c)).map (·.length)).sum = cl.length := by
            rw [List.map_map]
            clear ll hin2 e0 q hp2 s4 nD
            induction cl with
            | nil => rfl
            | cons c l ih =>
              rw [List.map_cons, List.sum_cons, ih]
              show 1 + l.length = l.length + 1
              omega
          have e2 : (("" : Str)).length = 0 := rfl
          rw [e1, e2]
          omega
        · walk_at "rd"
          refine ⟨?_, rfl, ?_⟩
          · have key : ∀ m : Nat, m < 17 → PadOk ((m : Nat) : Int) = true := by decide +kernel
            exact key k (by omega)
          · exact q _ (((s1.trans s2).trans s3).trans (s4.trans (same_new nD)))
end
section
variable {P : Program} {w : World} {K : PySem.W.Frag} {mg : Str → Option Value} {base : Heap}
theorem ok_Lexicon_MU_initU {f0 : Addr} {fd : FuncData} (F : FunD K "__init__" "Lexicon.__init__" (defArgs s_Lexicon_MU_initU) (defBody s_Lexicon_MU_initU) (defScope s_Lexicon_MU_initU) [(.ref (He.dflAt ("Lexicon", some "__init__") 0 K))] [] f0 fd) (M : Mk K (He.ga K "Lexicon") f0) (T : Tx P K mg) (C_Version_MU_initU : CalI P w K mg base (L2.CX P w) 3 (He.ga K "Version") ["self", "version"] (spVer K)) (C_cut_form : Cal P w K mg base (L2.CX P w) 5 "cut_form" ["version", "word"] (spCutForm K))  : CalID P w K mg base (L2.CX P w) 6 (He.ga K "Lexicon") ["self", "version", "words"] (.ref (He.dflAt ("Lexicon", some "__init__") 0 K)) (spLex K) := by
  refine calID_of F M 2 rfl bf_Lexicon_MU_initU bd_Lexicon_MU_initU (okXD F sc_Lexicon_MU_initU (fun vs H Q E h => ?_) (fun f cdv A outer s H vs Q E hr h => ?_))
  · first | (obtain ⟨rfl, _⟩ := h; rfl) | (obtain ⟨_, rfl, _⟩ := h; rfl) | (obtain ⟨_, _, rfl, _⟩ := h; rfl) | (obtain ⟨_, _, _, rfl, _⟩ := h; rfl) | (obtain ⟨_, _, _, _, rfl, _⟩ := h; rfl) | (obtain ⟨_, _, _, _, _, rfl, _⟩ := h; rfl) | (obtain ⟨_, _, _, _, _, _, rfl, _⟩ := h; rfl) | (obtain ⟨_, _, _, _, _, _, _, rfl, _⟩ := h; rfl) | (obtain ⟨_, _, _, _, _, _, _, _, rfl, _⟩ := h; rfl) | (obtain ⟨_, _, _, _, _, _, _, _, _, rfl, _⟩ := h; rfl)
  · skip
    refine ⟨_, (pss_cons (ps_fld (pv 0) (Fx.pe_fldK (K := K) rfl (Fx.pe_mk C_Version_MU_initU (hr.mono (by decide)) T.g_Version (passes_call (takes_of rfl rfl rfl rfl) (fun _ _ _ _ z => z)) (Fx.pa_c (pv 1) pa_nil)) rfl) rfl)
        (pss_cons (ps_set (i := 3) sc_Lexicon_MU_initU.nd rfl (Or.inr rfl) pe_dnewK)
        (pss_cons (ps_for (passes_of rfl) rfl (Fx.pi_Q (pv 2)) (pg_name (i := 4) sc_Lexicon_MU_initU.nd rfl (Or.inl rfl)) (pss_one (ps_dput (hu_of hr) (pv 3) (Fx.pe_cal C_cut_form (hr.mono (by decide)) (passes_call (takes_of rfl rfl rfl rfl) (fun _ _ _ _ z => z)) (Fx.pa_c (pv 1) (Fx.pa_c (pv 4) pa_nil))) (pv 4) rfl)))
        (pss_cons (ps_fld (pv 0) (Fx.pe_cTy Fx.tup_F T.b_tuple (by decide +kernel) (Fx.pa_c (Fx.pe_cB Fx.sort_S T.b_sorted (by decide +kernel) (Fx.pa_c (Fx.pe_cTy (call_list_dK rfl) T.b_list (by decide +kernel) (Fx.pa_c (pv 3) pa_nil)) pa_nil)) pa_nil)) rfl)
        (pss_one (ps_fld (pv 0) (Fx.pe_cTy Fx.tup_F T.b_tuple (by decide +kernel) (Fx.pa_c (pe_lc (own := [("form", 5)]) rfl sc_Lexicon_MU_initU.nd (pi_tup (Fx.pe_fldK (K := K) rfl (pv 0) rfl)) (blkOk_by (N := N_Lexicon_MU_initU) (sc := defScope s_Lexicon_MU_initU) (by decide +kernel)) (fun _ _ _ _ _ => (pg_name (i := 5) sc_Lexicon_MU_initU.nd rfl (Or.inl rfl))) (fun _ _ _ _ _ => pts_nil) (fun _ _ _ _ _ => (pe_dget (hu_of hr) (pv 3) (pv 5) (fun _ _ => rfl)))) pa_nil)) rfl)))))), ?_⟩
    obtain ⟨x, dx, v, pw, l, rfl, hx, hS, hl, h⟩ := h
    refine seqI fun K1 k1 => ?_
    walk_at "rd"
    intro x1 dx1 nx1 ndx1 _
    have sx : Same H (upd (upd H dx1 (.own x1)) x1 (.ins (He.ga K "Version") dx1 [])) := fun b o e => by
      rw [upd_ne (ne_of_none e nx1), upd_ne (ne_of_none e ndx1)]
      exact e
    refine ⟨x1, dx1, v, rfl, upd_same, ?_⟩
    by_cases hbv : BadV H v ∧ ∀ d H', (∀ a o, a ≠ x → H a = some o → H' a = some o) → H d = none → H' d = some (.xd [("version", v)]) → E (.ref (He.ga K "BadVersion")) (some d) H'
    · exact .inr ⟨hbv.1.same sx, fun d H' s' nd hd => hbv.2 d H' (fun a o _ e => s' a o (sx a o e)) (sx.free nd) hd⟩
    have h := h.resolve_left hbv
    clear hbv
    obtain ⟨n, hg⟩ : ∃ n, GoodV v n := by
      rcases h with ⟨n, w, hg, _⟩ | ⟨n, zs, hg, _⟩
      · exact ⟨n, hg⟩
      · exact ⟨n, hg⟩
    refine .inl ⟨n, hg, fun H2 hk hx1 => ⟨rfl, _, _, _, hx1, T.cl_Version, T.n_Version_number, _, rfl, _, _, _, hk _ _ (ne_of_none hx nx1) (sx _ _ hx), T.cl_Lexicon, T.n_Lexicon_version, by decide, k1 _ _ ?_⟩⟩
    clear k1
    have s2 : ∀ a o, a ≠ x → H a = some o → (upd H2 x (.ins (He.ga K "Lexicon") dx (putF "version" (.int n) []))) a = some o := fun a o ne e => by
      rw [upd_ne ne]
      exact hk a o (ne_of_none e nx1) (sx a o e)
    have hx2 : (upd H2 x (.ins (He.ga K "Lexicon") dx (putF "version" (.int n) []))) x = some (.ins (He.ga K "Lexicon") dx [("version", .int n)]) := upd_same
    show tSeq _ _ _ _ (upd H2 x (.ins (He.ga K "Lexicon") dx (putF "version" (.int n) [])))
    generalize upd H2 x (.ins (He.ga K "Lexicon") dx (putF "version" (.int n) [])) = H3 at s2 hx2
    clear hx1 hk sx nx1 ndx1
    refine seqI fun K1 k1 => ?_
    walk_at "rd"
    intro pt npt
    refine k1 _ _ ?_
    clear k1
    have s4 := same_new (o := .dK (tab [])) npt
    have ht4 := upd_same (H := H3) (a := pt) (o := .dK (tab []))
    show tSeq _ _ _ _ (upd H3 pt (.dK (tab [])))
    have hx4 := s4 _ _ hx2
    have k4 : Kx x H (upd H3 pt (.dK (tab []))) := fun a o na e => s4 a o (s2 a o na e)
    have npt0 : H pt = none := by
      cases q : H pt with
      | none => rfl
      | some o =>
        by_cases e : pt = x
        · rw [e, hx2] at npt
          cases npt
        · rw [s2 pt o e q] at npt
          cases npt
    have hptx : pt ≠ x := fun e => by
      rw [e, hx2] at npt
      cases npt
    generalize upd H3 pt (.dK (tab [])) = H4 at s4 ht4 hx4 k4
    clear s4 hx2 s2 npt
    refine seqI fun K1 k1 => ?_
    refine forA (x := x) (Hb := H) (a := pw) (xs := l) hx rfl hS (fun i σ H' => ∃ (v4 : Option V) (zs : List Str) (ps : List (Str × Str)), σ = [some (.ref x), some v, some (.ref pw), some (.ref pt), v4, none] ∧ l.take i = ms zs ∧ (∀ z ∈ zs, isW z = true ∧ z.length ≤ 1000) ∧ TabOk n zs ps ∧ H' pt = some (.dK (tab ps)) ∧ Kx x H H' ∧ H' x = some (.ins (He.ga K "Lexicon") dx [("version", .int n)])) ⟨none, [], [], rfl, rfl, fun z h => by (cases h), ⟨List.nodup_nil, fun p h => by (cases h), fun z h => by (cases h), Nat.le_refl _⟩, ht4, k4, hx4⟩ (fun i σ H' ⟨_, _, _, _, _, _, _, _, k, _⟩ => k) ?_ ?_
    · rintro i y σ H5 hy ⟨v4, zs, ps, rfl, hz, hw, t, hp5, k5, e5⟩
      clear k1
      walk_at "rd"
      refine ⟨v, y, rfl, ?_⟩
      have hi := (List.getElem?_eq_some_iff.mp hy).1
      have good : ∀ z, GoodW y z → ∀ H', Same H5 H' → ∃ x_1, DPut H' pt (.str (cutT n z)) y x_1 ∧ ∃ x_2, List.take (i + 1) l = ms x_2 ∧ (∀ z ∈ x_2, isW z = true ∧ z.length ≤ 1000) ∧ ∃ x_3, TabOk n x_2 x_3 ∧ x_1 pt = some (HO.dK (tab x_3)) ∧ Kx x H x_1 ∧ x_1 x = some (HO.ins (He.ga K "Lexicon") dx [("version", V.int n)]) := by
        rintro z ⟨rfl, lz, wz⟩ H' s'
        obtain ⟨ps', e1, t'⟩ := tab_put t z
        have lp : (tab ps).length < 1000 := by
          rw [List.length_map]
          have h1 := t.len
          have h2 : (ms zs).length ≤ l.length := by rw [← hz, List.length_take]; omega
          rw [List.length_map] at h2
          omega
        refine ⟨_, (dput_s (s' _ _ hp5) lp).mpr rfl, zs ++ [z], ?_, ?_, ps', t', by rw [upd_same, e1], ?_, ?_⟩
        · rw [List.take_add_one, hy, hz]
          simp [ms]
        · intro a ha
          rcases List.mem_append.mp ha with ha | ha
          · exact hw a ha
          · rw [List.mem_singleton.mp ha]
            exact ⟨wz, lz⟩
        · intro a o na e
          rw [upd_ne (ne_of_none e npt0)]
          exact s' _ _ (k5 a o na e)
        · rw [upd_ne (Ne.symm hptx)]
          exact s' _ _ e5
      rcases h with ⟨n', w, hg', fb, q⟩ | ⟨n', zs0, hg', rfl, hw0, q⟩
      · rcases fb.at hz hw hy with ⟨z, gz⟩ | ⟨rfl, bz⟩
        · exact .inr (.inr ⟨n, z, hg, gz, good z gz⟩)
        · exact .inr (.inl ⟨n, hg, bz.kx k5 hx, fun d H' s' nd hd => q d H' (k5.trans (.of s')) (k5.free e5 nd) hd⟩)
      · obtain ⟨z, hz0, rfl⟩ := List.mem_map.mp (List.mem_of_getElem? hy)
        have gz : GoodW (.str z) z := ⟨rfl, (hw0 z hz0).2, (hw0 z hz0).1⟩
        exact .inr (.inr ⟨n, z, hg, gz, good z gz⟩)
    rintro σ H5 ⟨v4, zs, ps, rfl, hz, hw, t, hp5, k5, e5⟩
    refine k1 _ _ ?_
    clear k1
    rw [List.take_length] at hz
    rcases h with ⟨n', w, hg', fb, q⟩ | ⟨n', zs0, hg', el, hw0, q⟩
    · exact (fb.no hz hw).elim
    have en : n' = n := by
      have := hg'.1.symm.trans hg.1
      exact V.int.inj this
    have ez : zs0 = zs := ms_inj.mp (el.symm.trans hz)
    subst en ez
    clear hg' hw0 el
    refine seqI fun K1 k1 => ?_
    walk_at "rd"
    refine ⟨_, hp5, fun q1 nq1 => ⟨ps.map (·.1), tab_keys ps, fun ys q2 perm so nq2 l1 H6 nl1 s6 f6 => ?_⟩⟩
    have sA : Same H5 H6 := ((same_new nq1).trans (same_new nq2)).trans s6
    have e6 := sA _ _ e5
    refine ⟨_, _, _, e6, T.cl_Lexicon, T.n_Lexicon_forms, (show 1 < 1000 by decide), k1 _ _ ?_⟩
    clear k1
    have hp6 := sA _ _ hp5
    have k6 : Kx x H H6 := k5.trans (.of sA)
    have f7 : FT (upd H6 x (.ins (He.ga K "Lexicon") dx (putF "forms" (.ref l1) [("version", .int n')]))) l1 (ms ys) := by
      obtain ⟨ob, h1, h2⟩ := f6
      exact ⟨ob, by rw [upd_ne (ne_of h1 e6 (by intro z; cases z))]; exact h1, h2⟩
    have p7 : (upd H6 x (.ins (He.ga K "Lexicon") dx (putF "forms" (.ref l1) [("version", .int n')]))) pt = some (.dK (tab ps)) := by rw [upd_ne hptx]; exact hp6
    have k7 : Kx x H (upd H6 x (.ins (He.ga K "Lexicon") dx (putF "forms" (.ref l1) [("version", .int n')]))) := fun a o na e => by rw [upd_ne na]; exact k6 a o na e
    have e7 : (upd H6 x (.ins (He.ga K "Lexicon") dx (putF "forms" (.ref l1) [("version", .int n')]))) x = some (.ins (He.ga K "Lexicon") dx [("version", .int n'), ("forms", .ref l1)]) := upd_same
    show sFld _ _ _ _ _ _ (upd H6 x (.ins (He.ga K "Lexicon") dx (putF "forms" (.ref l1) [("version", .int n')])))
    generalize upd H6 x (.ins (He.ga K "Lexicon") dx (putF "forms" (.ref l1) [("version", .int n')])) = H7 at f7 p7 k7 e7
    clear f6 hp6 k6 e6 sA s6 nl1 nq1 nq2 e5 k5 hp5
    walk_at "rd"
    refine ⟨_, rfl, x, _, _, _, _, rfl, e7, T.cl_Lexicon, T.n_Lexicon_forms, rfl, l1, rfl, ⟨_, f7.sq⟩, fun D nD => ?_⟩
    refine lc_tup (K := K) (a := l1) (xs := ms ys) (fun i H8 => ∃ ws : List Str, ws.length = i ∧ ws.map (cutT n') = ys.take i ∧ (∀ w ∈ ws, w ∈ zs0) ∧ H8 = upd H7 D (.lst (ms ws))) ⟨[], rfl, rfl, fun w h => by (cases h), rfl⟩ (fun i H8 _ ⟨_, _, _, _, e⟩ => ?_) ?_ ?_
    · rw [e]
      exact (f7.same (same_new nD)).sq
    · rintro i y H8 hy ⟨ws, lw, ew, mw, rfl⟩
      rw [List.getElem?_map] at hy
      obtain ⟨f, hf, rfl⟩ : ∃ f, ys[i]? = some f ∧ V.str f = y := by
        cases e : ys[i]? with
        | none => rw [e] at hy; cases hy
        | some f => rw [e] at hy; exact ⟨f, rfl, Option.some.inj hy⟩
      have hm : f ∈ ps.map (·.1) := perm.mem_iff.mp (List.mem_of_getElem? hf)
      obtain ⟨w, hv, cw, wz⟩ := tab_val t hm
      refine ⟨rfl, ?_⟩
      walk_at "rd"
      have hi := (List.getElem?_eq_some_iff.mp hf).1
      have ly : ys.length ≤ 500 := by
        rw [perm.length_eq, List.length_map]
        rw [hz, List.length_map] at hl
        exact Nat.le_trans t.len hl
      refine ⟨.str w, (dget_s (same_new nD _ _ p7)).mpr hv.symm, ?_, ws ++ [w], ?_, ?_, ?_, ?_⟩
      · rw [List.length_map]
        exact Nat.lt_of_lt_of_le (by omega : _ < 1000) (by decide)
      · rw [List.length_append, lw]
        rfl
      · rw [List.map_append, ew, List.take_add_one, hf, List.map_cons, cw]
        rfl
      · intro a ha
        rcases List.mem_append.mp ha with ha | ha
        · exact mw a ha
        · rw [List.mem_singleton.mp ha]
          exact wz
      · rw [upd_upd, ms, ms, List.map_append]
        rfl
    rintro H8 ⟨ws, lw, ew, mw, rfl⟩
    have s8 := same_new (o := .lst (ms ws)) nD
    refine ⟨D, rfl, _, upd_same, fun l2 H9 nl2 s9 f9 => ?_⟩
    have sB := s8.trans s9
    have e9 := sB _ _ e7
    refine ⟨_, _, _, e9, T.cl_Lexicon, T.n_Lexicon_words, (show 2 < 1000 by decide), ?_⟩
    have ew2 : ws.map (cutT n') = ys := by rw [ew, List.length_map, List.take_length]
    have lz : zs0.length ≤ 500 := by
      rw [hz, List.length_map] at hl
      exact hl
    have f9' := f7.same sB
    refine q _ ys ws ⟨⟨hg.2.1, hg.2.2, so, (perm.nodup_iff).mpr t.nd, ew2, fun z hzz => hw z (mw z hzz), ?_⟩, fun f => ?_⟩ ?_ ⟨⟨hg.2.1, hg.2.2, so, (perm.nodup_iff).mpr t.nd, ew2, fun z hzz => hw z (mw z hzz), ?_⟩, dx, l1, l2, upd_same, ?_, ?_⟩
    · rw [perm.length_eq, List.length_map]
      exact Nat.le_trans t.len lz
    · rw [perm.mem_iff]
      constructor
      · intro h
        obtain ⟨p, hp, rfl⟩ := List.mem_map.mp h
        rw [(t.of p hp).1]
        exact List.mem_map_of_mem (t.of p hp).2
      · intro h
        obtain ⟨z, hzz, rfl⟩ := List.mem_map.mp h
        exact t.all z hzz
    · intro a o na e
      rw [upd_ne na]
      exact sB _ _ (k7 a o na e)
    · rw [perm.length_eq, List.length_map]
      exact Nat.le_trans t.len lz
    · obtain ⟨ob, h1, h2⟩ := f9'
      exact ⟨ob, by rw [upd_ne (ne_of h1 e9 (by intro z; cases z))]; exact h1, h2⟩
    · obtain ⟨ob, h1, h2⟩ := f9
      exact ⟨ob, by rw [upd_ne (ne_of h1 e9 (by intro z; cases z))]; exact h1, h2⟩
end
section
variable {P : Program} {w : World} {K : PySem.W.Frag} {mg : Str → Option Value} {base : Heap}
theorem ok_Lexicon_MU_getitemU {f0 : Addr} {fd : FuncData} (F : FunD K "__getitem__" "Lexicon.__getitem__" (defArgs s_Lexicon_MU_getitemU) (defBody s_Lexicon_MU_getitemU) (defScope s_Lexicon_MU_getitemU) [] [] f0 fd) (M : Meth K (He.ga K "Lexicon") "__getitem__" f0) (T : Tx P K mg)   : CalM P w K mg base CX0 1 (He.ga K "Lexicon") "__getitem__" ["self", "k"] (spLGet K) := by
  refine ⟨f0, fd, M, F.bindsN bn_Lexicon_MU_getitemU, ok0 F sc_Lexicon_MU_getitemU (fun vs H Q E h => ?_) (fun f cdv A outer s H vs Q E hr h => ?_)⟩
  · first | (obtain ⟨rfl, _⟩ := h; rfl) | (obtain ⟨_, rfl, _⟩ := h; rfl) | (obtain ⟨_, _, rfl, _⟩ := h; rfl) | (obtain ⟨_, _, _, rfl, _⟩ := h; rfl) | (obtain ⟨_, _, _, _, rfl, _⟩ := h; rfl) | (obtain ⟨_, _, _, _, _, rfl, _⟩ := h; rfl) | (obtain ⟨_, _, _, _, _, _, rfl, _⟩ := h; rfl) | (obtain ⟨_, _, _, _, _, _, _, rfl, _⟩ := h; rfl) | (obtain ⟨_, _, _, _, _, _, _, _, rfl, _⟩ := h; rfl) | (obtain ⟨_, _, _, _, _, _, _, _, _, rfl, _⟩ := h; rfl)
  · skip
    refine ⟨_, (pss_one (ps_ret (pe_ix Fx.ix_F (Fx.pe_fldK (K := K) rfl (pv 0) rfl) (pv 1) (fun _ _ => rfl)))), ?_⟩
    obtain ⟨x, i, n, fs, ws, rfl, ⟨ok, dx, p, q', hx, hp, hq⟩, z, hz, q⟩ := h
    walk_at "rd"
    exact ⟨_, _, _, hx, T.cl_Lexicon, T.n_Lexicon_forms, _, rfl, p, rfl, _, hp, _, hz, q⟩
end
section
variable {P : Program} {w : World} {K : PySem.W.Frag} {mg : Str → Option Value} {base : Heap}
theorem ok_Lexicon_MU_iterU {f0 : Addr} {fd : FuncData} (F : FunD K "__iter__" "Lexicon.__iter__" (defArgs s_Lexicon_MU_iterU) (defBody s_Lexicon_MU_iterU) (defScope s_Lexicon_MU_iterU) [] [] f0 fd) (M : Meth K (He.ga K "Lexicon") "__iter__" f0) (T : Tx P K mg)   : CalM P w K mg base CX0 1 (He.ga K "Lexicon") "__iter__" ["self"] (spLIter K) := by
  refine ⟨f0, fd, M, F.bindsN bn_Lexicon_MU_iterU, ok0 F sc_Lexicon_MU_iterU (fun vs H Q E h => ?_) (fun f cdv A outer s H vs Q E hr h => ?_)⟩
  · first | (obtain ⟨rfl, _⟩ := h; rfl) | (obtain ⟨_, rfl, _⟩ := h; rfl) | (obtain ⟨_, _, rfl, _⟩ := h; rfl) | (obtain ⟨_, _, _, rfl, _⟩ := h; rfl) | (obtain ⟨_, _, _, _, rfl, _⟩ := h; rfl) | (obtain ⟨_, _, _, _, _, rfl, _⟩ := h; rfl) | (obtain ⟨_, _, _, _, _, _, rfl, _⟩ := h; rfl) | (obtain ⟨_, _, _, _, _, _, _, rfl, _⟩ := h; rfl) | (obtain ⟨_, _, _, _, _, _, _, _, rfl, _⟩ := h; rfl) | (obtain ⟨_, _, _, _, _, _, _, _, _, rfl, _⟩ := h; rfl)
  · skip
    refine ⟨_, (pss_one (ps_ret (Fx.pe_cB Fx.iter_T T.b_iter (by decide +kernel) (Fx.pa_c (Fx.pe_fldK (K := K) rfl (pv 0) rfl) pa_nil)))), ?_⟩
    obtain ⟨x, n, fs, ws, rfl, ⟨ok, dx, p, q', hx, hp, hq⟩, q⟩ := h
    walk_at "rd"
    exact ⟨_, _, _, hx, T.cl_Lexicon, T.n_Lexicon_forms, _, rfl, p, rfl, _, hp, fun it ni => q it p hp ni⟩
end
section
variable {P : Program} {w : World} {K : PySem.W.Frag} {mg : Str → Option Value} {base : Heap}
theorem ok_Lexicon_MU_lenU {f0 : Addr} {fd : FuncData} (F : FunD K "__len__" "Lexicon.__len__" (defArgs s_Lexicon_MU_lenU) (defBody s_Lexicon_MU_lenU) (defScope s_Lexicon_MU_lenU) [] [] f0 fd) (M : Meth K (He.ga K "Lexicon") "__len__" f0) (T : Tx P K mg)   : CalM P w K mg base CX0 1 (He.ga K "Lexicon") "__len__" ["self"] (spLLen K) := by
  refine ⟨f0, fd, M, F.bindsN bn_Lexicon_MU_lenU, ok0 F sc_Lexicon_MU_lenU (fun vs H Q E h => ?_) (fun f cdv A outer s H vs Q E hr h => ?_)⟩
  · first | (obtain ⟨rfl, _⟩ := h; rfl) | (obtain ⟨_, rfl, _⟩ := h; rfl) | (obtain ⟨_, _, rfl, _⟩ := h; rfl) | (obtain ⟨_, _, _, rfl, _⟩ := h; rfl) | (obtain ⟨_, _, _, _, rfl, _⟩ := h; rfl) | (obtain ⟨_, _, _, _, _, rfl, _⟩ := h; rfl) | (obtain ⟨_, _, _, _, _, _, rfl, _⟩ := h; rfl) | (obtain ⟨_, _, _, _, _, _, _, rfl, _⟩ := h; rfl) | (obtain ⟨_, _, _, _, _, _, _, _, rfl, _⟩ := h; rfl) | (obtain ⟨_, _, _, _, _, _, _, _, _, rfl, _⟩ := h; rfl)
  · skip
    refine ⟨_, (pss_one (ps_ret (Fx.pe_cB Fx.len_F T.b_len (by decide +kernel) (Fx.pa_c (Fx.pe_fldK (K := K) rfl (pv 0) rfl) pa_nil)))), ?_⟩
    obtain ⟨x, n, fs, ws, rfl, ⟨ok, dx, p, q', hx, hp, hq⟩, q⟩ := h
    walk_at "rd"
    refine ⟨_, _, _, hx, T.cl_Lexicon, T.n_Lexicon_forms, _, rfl, p, rfl, _, hp, ?_⟩
    rw [List.length_map]
    exact q
end
section
variable {P : Program} {w : World} {K : PySem.W.Frag} {mg : Str → Option Value} {base : Heap}
theorem ok_Lexicon_M_find {f0 : Addr} {fd : FuncData} (F : FunD K "find" "Lexicon.find" (defArgs s_Lexicon_M_find) (defBody s_Lexicon_M_find) (defScope s_Lexicon_M_find) [] [] f0 fd) (M : Meth K (He.ga K "Lexicon") "find" f0) (T : Tx P K mg) (C_is_word : Cal P w K mg base CX0 1 "is_word" ["thing"] spIsWord) (C_cut_form : Cal P w K mg base (L2.CX P w) 5 "cut_form" ["version", "word"] (spCutForm K))  : CalM P w K mg base CX0 6 (He.ga K "Lexicon") "find" ["self", "word"] (spLFind K) := by
  refine ⟨f0, fd, M, F.bindsN bn_Lexicon_M_find, ok0 F sc_Lexicon_M_find (fun vs H Q E h => ?_) (fun f cdv A outer s H vs Q E hr h => ?_)⟩
  · first | (obtain ⟨rfl, _⟩ := h; rfl) | (obtain ⟨_, rfl, _⟩ := h; rfl) | (obtain ⟨_, _, rfl, _⟩ := h; rfl) | (obtain ⟨_, _, _, rfl, _⟩ := h; rfl) | (obtain ⟨_, _, _, _, rfl, _⟩ := h; rfl) | (obtain ⟨_, _, _, _, _, rfl, _⟩ := h; rfl) | (obtain ⟨_, _, _, _, _, _, rfl, _⟩ := h; rfl) | (obtain ⟨_, _, _, _, _, _, _, rfl, _⟩ := h; rfl) | (obtain ⟨_, _, _, _, _, _, _, _, rfl, _⟩ := h; rfl) | (obtain ⟨_, _, _, _, _, _, _, _, _, rfl, _⟩ := h; rfl)
  · skip
    refine ⟨_, (pss_cons (ps_if (pt_not (pt_val (Fx.pe_cal C_is_word (hr.mono (by decide)) pass0 (Fx.pa_c (pv 1) pa_nil)))) (pss_one (ps_ret pe_non)) pss_nil)
        (pss_cons (ps_set (i := 2) sc_Lexicon_M_find.nd rfl (Or.inl rfl) (Fx.pe_cal C_cut_form (hr.mono (by decide)) Fx.passX (Fx.pa_c (Fx.pe_fldK (K := K) rfl (pv 0) rfl) (Fx.pa_c (pv 1) pa_nil))))
        (pss_cons (ps_if (pt_cmpR Fx.in_F (pv 2) (Fx.pe_fldK (K := K) rfl (pv 0) rfl) rfl) (pss_one (ps_ret (Fx.pe_bmF PySem.F.slot_tuple_index PySem.F.type_tuple_index Fx.idx_F (Fx.pe_fldK (K := K) rfl (pv 0) rfl) (Fx.pa_c (pv 2) pa_nil)))) pss_nil)
        (pss_one (ps_ret pe_non))))), ?_⟩
    obtain ⟨x, v, n, fs, ws, rfl, hL, h⟩ := h
    refine seqI fun K1 k1 => ?_
    walk_at "rd"
    rcases h with ⟨z, ⟨rfl, lz, wz⟩, q⟩ | ⟨bz, q⟩
    · refine ⟨_, rfl, .inl ⟨z, rfl, lz, fun H1 s1 => ⟨_, rfl, ?_⟩⟩⟩
      rw [wz, if_neg (by decide)]
      refine k1 _ _ ?_
      clear k1
      have hL1 := hL.same s1
      obtain ⟨ok, dx, p, q', hx, hp, hq⟩ := id hL1
      refine seqI fun K1 k1 => ?_
      walk_at "rd"
      refine ⟨_, _, _, hx, T.cl_Lexicon, T.n_Lexicon_version, _, rfl, _, _, rfl, .inr (.inr ⟨n, z, ⟨rfl, ok.n1, ok.n3⟩, ⟨rfl, lz, wz⟩, fun H2 s2 => k1 _ _ ?_⟩)⟩
      clear k1
      replace hx := s2 _ _ hx
      replace hp := hp.same s2
      unfold findV at q
      refine seqI fun K1 k1 => ?_
      walk_at "rd"
      refine ⟨_, _, _, hx, T.cl_Lexicon, T.n_Lexicon_forms, _, rfl, p, rfl, fs, hp, ite_i (fun hm => ?_) (fun hm => k1 _ _ ?_)⟩
      · rw [if_pos hm] at q
        exact ⟨_, _, _, hx, T.cl_Lexicon, T.n_Lexicon_forms, _, rfl, p, rfl, ⟨_, hp⟩, p, rfl, fs, hp, hm, q _ (s1.trans s2)⟩
      · rw [if_neg hm] at q
        walk_at "rd"
        exact q _ (s1.trans s2)
    · exact bad_word bz fun H1 s1 => ⟨false, rfl, ite_i (fun _ => q H1 s1) (fun h => absurd rfl h)⟩
end
section
variable {P : Program} {w : World} {K : PySem.W.Frag} {mg : Str → Option Value} {base : Heap}
theorem ok_Lexicon_MU_containsU {f0 : Addr} {fd : FuncData} (F : FunD K "__contains__" "Lexicon.__contains__" (defArgs s_Lexicon_MU_containsU) (defBody s_Lexicon_MU_containsU) (defScope s_Lexicon_MU_containsU) [] [] f0 fd) (M : Meth K (He.ga K "Lexicon") "__contains__" f0) (T : Tx P K mg) (C_Lexicon_M_find : CalM P w K mg base CX0 6 (He.ga K "Lexicon") "find" ["self", "word"] (spLFind K))  : CalM P w K mg base CX0 7 (He.ga K "Lexicon") "__contains__" ["self", "word"] (spLIn K) := by
  refine ⟨f0, fd, M, F.bindsN bn_Lexicon_MU_containsU, ok0 F sc_Lexicon_MU_containsU (fun vs H Q E h => ?_) (fun f cdv A outer s H vs Q E hr h => ?_)⟩
  · first | (obtain ⟨rfl, _⟩ := h; rfl) | (obtain ⟨_, rfl, _⟩ := h; rfl) | (obtain ⟨_, _, rfl, _⟩ := h; rfl) | (obtain ⟨_, _, _, rfl, _⟩ := h; rfl) | (obtain ⟨_, _, _, _, rfl, _⟩ := h; rfl) | (obtain ⟨_, _, _, _, _, rfl, _⟩ := h; rfl) | (obtain ⟨_, _, _, _, _, _, rfl, _⟩ := h; rfl) | (obtain ⟨_, _, _, _, _, _, _, rfl, _⟩ := h; rfl) | (obtain ⟨_, _, _, _, _, _, _, _, rfl, _⟩ := h; rfl) | (obtain ⟨_, _, _, _, _, _, _, _, _, rfl, _⟩ := h; rfl)
  · skip
    obtain ⟨f_Lexicon_M_find, fd_Lexicon_M_find, m_Lexicon_M_find, b_Lexicon_M_find, G_Lexicon_M_find⟩ := C_Lexicon_M_find.ex
    refine ⟨_, (pss_one (ps_ret (pe_cmpR op_notNon (pe_meth (pv 0) T.cl_Lexicon m_Lexicon_M_find G_Lexicon_M_find (hr.mono (by decide)) b_Lexicon_M_find .nil pass0 (Fx.pa_c (pv 1) pa_nil)) pe_non (nomark _)))), ?_⟩
    obtain ⟨x, v, n, fs, ws, rfl, hL, h⟩ := h
    walk_at "rd"
    obtain ⟨ok, dx, p, q', hx, hp, hq⟩ := id hL
    refine ⟨_, _, hx, rfl, x, v, n, fs, ws, rfl, hL, ?_⟩
    rcases h with ⟨z, gz, q⟩ | ⟨bz, q⟩
    · refine .inl ⟨z, gz, fun H' s' => ?_⟩
      show Q (V.bl (!decide (findV n fs z = V.non))) H'
      have e : (!decide (findV n fs z = V.non)) = decide (cutT n z ∈ fs) := by
        unfold findV
        by_cases h : cutT n z ∈ fs
        · rw [if_pos h, decide_eq_true h]
          simp
        · rw [if_neg h, decide_eq_false h]
          simp
      rw [e]
      exact q H' s'
    · exact .inr ⟨bz, fun H' s' => q H' s'⟩
end
section
variable {P : Program} {w : World} {K : PySem.W.Frag} {mg : Str → Option Value} {base : Heap}
theorem ok_Lexicon_MU_eqU {f0 : Addr} {fd : FuncData} (F : FunD K "__eq__" "Lexicon.__eq__" (defArgs s_Lexicon_MU_eqU) (defBody s_Lexicon_MU_eqU) (defScope s_Lexicon_MU_eqU) [] [] f0 fd) (M : Meth K (He.ga K "Lexicon") "__eq__" f0) (T : Tx P K mg)   : CalM P w K mg base CX0 1 (He.ga K "Lexicon") "__eq__" ["self", "other"] (spLEq K) := by
  refine ⟨f0, fd, M, F.bindsN bn_Lexicon_MU_eqU, ok0 F sc_Lexicon_MU_eqU (fun vs H Q E h => ?_) (fun f cdv A outer s H vs Q E hr h => ?_)⟩
  · first | (obtain ⟨rfl, _⟩ := h; rfl) | (obtain ⟨_, rfl, _⟩ := h; rfl) | (obtain ⟨_, _, rfl, _⟩ := h; rfl) | (obtain ⟨_, _, _, rfl, _⟩ := h; rfl) | (obtain ⟨_, _, _, _, rfl, _⟩ := h; rfl) | (obtain ⟨_, _, _, _, _, rfl, _⟩ := h; rfl) | (obtain ⟨_, _, _, _, _, _, rfl, _⟩ := h; rfl) | (obtain ⟨_, _, _, _, _, _, _, rfl, _⟩ := h; rfl) | (obtain ⟨_, _, _, _, _, _, _, _, rfl, _⟩ := h; rfl) | (obtain ⟨_, _, _, _, _, _, _, _, _, rfl, _⟩ := h; rfl)
  · skip
    refine ⟨_, (pss_one (ps_ret (pe_and (Fx.pe_cB Fx.is_I T.b_isinstance (by decide +kernel) (Fx.pa_c (pv 1) (Fx.pa_c (pe_glob (v := .ref (He.ga K "Lexicon")) rfl T.g_Lexicon rfl) pa_nil))) (pe_and (pe_cmpR op_eq (Fx.pe_fldK (K := K) rfl (pv 0) rfl) (Fx.pe_fldK (K := K) rfl (pv 1) rfl) (nomark _)) (pe_one (pe_cmpR (Fx.eq_FF hr.units) (Fx.pe_fldK (K := K) rfl (pv 0) rfl) (Fx.pe_fldK (K := K) rfl (pv 1) rfl) (nomark _))))))), ?_⟩
    obtain ⟨x, y, n, m, fs, ws, gs, us, rfl, ⟨ok, dx, p, q', hx, hp, hq⟩, ⟨ok2, dy, p2, q2, hy, hp2, hq2⟩, q⟩ := h
    walk_at "rd"
    have hI := insC_of T.cl_Lexicon T.i_Lexicon
    refine ⟨_, _, _, hy, hI, _, rfl, _, hI.me, ?_⟩
    rw [if_pos rfl]
    refine ⟨_, _, _, hx, T.cl_Lexicon, T.n_Lexicon_version, _, rfl, _, _, _, hy, T.cl_Lexicon, T.n_Lexicon_version, _, rfl, rfl, ?_⟩
    by_cases e : n = m
    · subst e
      rw [if_pos rfl]
      refine ⟨_, _, _, hx, T.cl_Lexicon, T.n_Lexicon_forms, _, rfl, _, _, _, hy, T.cl_Lexicon, T.n_Lexicon_forms, _, rfl, ?_⟩
      refine ⟨p, rfl, p2, rfl, _, hp, _, hp2, ok.isF, ok2.isF, ?_⟩
      have e : decide (ms fs = ms gs) = (decide (n = n) && decide (fs = gs)) := by
        rw [decide_eq_true rfl, Bool.true_and]
        exact decide_eq_decide.mpr ms_inj
      rw [e]
      exact q
    · rw [if_neg (by intro h; exact e (V.int.inj h))]
      rw [decide_eq_false e, Bool.false_and] at q
      exact q
end
section
variable {P : Program} {w : World} {K : PySem.W.Frag} {mg : Str → Option Value} {base : Heap}
theorem ok_Lexicon_MU_andU {f0 : Addr} {fd : FuncData} (F : FunD K "__and__" "Lexicon.__and__" (defArgs s_Lexicon_MU_andU) (defBody s_Lexicon_MU_andU) (defScope s_Lexicon_MU_andU) [] [] f0 fd) (M : Meth K (He.ga K "Lexicon") "__and__" f0) (T : Tx P K mg) (C_Lexicon_MU_initU : CalID P w K mg base (L2.CX P w) 6 (He.ga K "Lexicon") ["self", "version", "words"] (.ref (He.dflAt ("Lexicon", some "__init__") 0 K)) (spLex K))  : CalM P w K mg base CX0 8 (He.ga K "Lexicon") "__and__" ["self", "other"] (spLAnd K) := by
  refine ⟨f0, fd, M, F.bindsN bn_Lexicon_MU_andU, ok0 F sc_Lexicon_MU_andU (fun vs H Q E h => ?_) (fun f cdv A outer s H vs Q E hr h => ?_)⟩
  · first | (obtain ⟨rfl, _⟩ := h; rfl) | (obtain ⟨_, rfl, _⟩ := h; rfl) | (obtain ⟨_, _, rfl, _⟩ := h; rfl) | (obtain ⟨_, _, _, rfl, _⟩ := h; rfl) | (obtain ⟨_, _, _, _, rfl, _⟩ := h; rfl) | (obtain ⟨_, _, _, _, _, rfl, _⟩ := h; rfl) | (obtain ⟨_, _, _, _, _, _, rfl, _⟩ := h; rfl) | (obtain ⟨_, _, _, _, _, _, _, rfl, _⟩ := h; rfl) | (obtain ⟨_, _, _, _, _, _, _, _, rfl, _⟩ := h; rfl) | (obtain ⟨_, _, _, _, _, _, _, _, _, rfl, _⟩ := h; rfl)
  · skip
    refine ⟨_, (pss_cons (ps_setLc (i := 2) (own := [("k", 3)]) rfl sc_Lexicon_MU_andU.nd rfl rfl (sw_true rfl rfl rfl (by decide +kernel)) (pi_range1 rfl T.b_range (Fx.pa_c (Fx.pe_cB Fx.len_F T.b_len (by decide +kernel) (Fx.pa_c (Fx.pe_fldK (K := K) rfl (pv 0) rfl) pa_nil)) pa_nil)) (blkOk_by (N := N_Lexicon_MU_andU) (sc := defScope s_Lexicon_MU_andU) (by decide +kernel)) (fun _ _ _ _ _ => (pg_name (i := 3) sc_Lexicon_MU_andU.nd rfl (Or.inl rfl))) (fun _ _ _ _ _ => (pts_one (pt_cmpR Fx.in_F (pe_ix Fx.ix_F (Fx.pe_fldK (K := K) rfl (pv 0) rfl) (pv 3) (fun _ _ => rfl)) (Fx.pe_fldK (K := K) rfl (pv 1) rfl) rfl))) (fun _ _ _ _ _ => (pe_ix Fx.ix_F (Fx.pe_fldK (K := K) rfl (pv 0) rfl) (pv 3) (fun _ _ => rfl))))
        (pss_one (ps_ret (Fx.pe_mk C_Lexicon_MU_initU.full (hr.mono (by decide)) T.g_Lexicon Fx.passX (Fx.pa_c (Fx.pe_fldK (K := K) rfl (pv 0) rfl) (Fx.pa_c (pv 2) pa_nil)))))), ?_⟩
    obtain ⟨x, y, n, m, fs, ws, gs, us, rfl, hL, hM, q⟩ := h
    obtain ⟨ok, dx, p, p', hx, hp, hp'⟩ := id hL
    obtain ⟨ok2, dy, r, r', hy, hr1, hr2⟩ := id hM
    refine seqI fun K1 k1 => ?_
    have lw : ws.length = fs.length := by rw [← ok.wd, List.length_map]
    have lf := ok.lt
    refine ⟨_, rfl, x, _, _, _, _, rfl, hx, T.cl_Lexicon, T.n_Lexicon_forms, rfl, p, rfl, _, hp, _, rfl, by rw [List.length_map]; omega, by rw [List.length_map]; omega, fun D nD => ?_⟩
    have e0 : (((ms fs).length : Nat) : Int).toNat = fs.length := by rw [List.length_map]; omega
    rw [e0]
    refine lc_range (lo := 0) (n := fs.length) (fun i H2 => ∃ zs : List Str, (∀ z ∈ zs, isW z = true ∧ z.length ≤ 1000) ∧ zs.length ≤ i ∧ (∀ f, f ∈ zs.map (cutT n) ↔ f ∈ fs.take i ∧ f ∈ gs) ∧ H2 = upd H D (.lst (ms zs))) ⟨[], fun z h => by (cases h), Nat.le_refl _, fun f => by simp, rfl⟩ ?_ ?_
    · rintro i H2 hi ⟨zs, hz, lz, hm, rfl⟩
      have s2 := same_new (o := .lst (ms zs)) nD
      have hx2 := s2 _ _ hx
      have hy2 := s2 _ _ hy
      have hi2 : i < ws.length := by omega
      have ga : atI (ms fs) (0 + (i : Int)) = some (.str fs[i]) := by rw [Int.zero_add]; exact atI_get (by simp [ms, hi])
      have gb : atI (ms ws) (0 + (i : Int)) = some (.str ws[i]) := by rw [Int.zero_add]; exact atI_get (by simp [ms, hi2])
      have ec : cutT n ws[i] = fs[i] := by
        have h1 : (ws.map (cutT n))[i]? = some (cutT n ws[i]) := by simp [hi2]
        rw [ok.wd, List.getElem?_eq_getElem hi] at h1
        exact (Option.some.inj h1).symm
      refine ⟨rfl, ?_⟩
      walk_at "rd"
      refine ⟨_, _, _, hx2, T.cl_Lexicon, T.n_Lexicon_forms, _, rfl, p, rfl, _, hp.same s2, _, ga, ?_⟩
      refine ⟨_, _, _, hy2, T.cl_Lexicon, T.n_Lexicon_forms, _, rfl, fs[i], rfl, r, rfl, gs, hr1.same s2, ?_⟩
      have tk : ∀ f, f ∈ List.take (i + 1) fs ↔ f ∈ List.take i fs ∨ f = fs[i] := fun f => by
        rw [List.take_add_one, List.getElem?_eq_getElem hi, List.mem_append]
        simp
      refine ite_i (fun hg => ?_) (fun hg => ?_)
      · refine ⟨_, _, _, hx2, T.cl_Lexicon, T.n_Lexicon_words, _, rfl, p', rfl, _, hp'.same s2, _, gb, ?_, zs ++ [ws[i]], ?_, ?_, ?_, ?_⟩
        · rw [List.length_map]
          exact Nat.lt_of_lt_of_le (by omega : _ < 1000) (by decide)
        · intro a ha
          rcases List.mem_append.mp ha with ha | ha
          · exact hz a ha
          · rw [List.mem_singleton.mp ha]
            exact ok.ok _ (List.getElem_mem hi2)
        · rw [List.length_append]
          show zs.length + 1 ≤ i + 1
          omega
        · intro f
          rw [List.map_append, List.mem_append, hm f, tk f]
          constructor
          · rintro (⟨h1, h2⟩ | h)
            · exact ⟨.inl h1, h2⟩
            · have ef : f = cutT n ws[i] := by simpa using h
              rw [ef, ec]
              exact ⟨.inr rfl, hg⟩
          · rintro ⟨h1 | h1, h2⟩
            · exact .inl ⟨h1, h2⟩
            · refine .inr ?_
              rw [h1, ← ec]
              simp
        · rw [upd_upd, ms, ms, List.map_append]
          rfl
      · refine ⟨zs, hz, by omega, fun f => ?_, rfl⟩
        rw [hm f, tk f]
        constructor
        · rintro ⟨h1, h2⟩
          exact ⟨.inl h1, h2⟩
        · rintro ⟨h1 | h1, h2⟩
          · exact ⟨h1, h2⟩
          · rw [h1] at h2
            exact (hg h2).elim
    rintro H2 ⟨zs, hz, lz, hm, rfl⟩
    rw [List.take_length] at hm
    have s2 := same_new (o := .lst (ms zs)) nD
    refine k1 _ _ ?_
    walk_at "rd"
    refine ⟨_, _, _, s2 _ _ hx, T.cl_Lexicon, T.n_Lexicon_version, _, rfl, fun z dz nz ndz _ => ?_⟩
    have sx : Same (upd H D (.lst (ms zs))) (upd (upd (upd H D (.lst (ms zs))) dz (.own z)) z (.ins (He.ga K "Lexicon") dz [])) := fun b o e => by
      rw [upd_ne (ne_of_none e nz), upd_ne (ne_of_none e ndz)]
      exact e
    refine ⟨z, dz, _, D, ms zs, rfl, upd_same, .inl (.inl (.inl (sx _ _ upd_same))), by rw [List.length_map]; omega, .inr (.inr ⟨n, zs, ⟨rfl, ok.n1, ok.n3⟩, rfl, hz, fun H3 hs ts hlx hk hl2 => ⟨rfl, q z H3 hs ts ?_ hl2 fun f => ?_⟩⟩)⟩
    · intro b o e
      have e1 := s2 _ _ e
      exact hk b o (ne_of_none e1 nz) (sx _ _ e1)
    · rw [hlx.2 f, hm f]
end
section
variable {P : Program} {w : World} {K : PySem.W.Frag} {mg : Str → Option Value} {base : Heap}
theorem ok_Lexicon_MU_orU {f0 : Addr} {fd : FuncData} (F : FunD K "__or__" "Lexicon.__or__" (defArgs s_Lexicon_MU_orU) (defBody s_Lexicon_MU_orU) (defScope s_Lexicon_MU_orU) [] [] f0 fd) (M : Meth K (He.ga K "Lexicon") "__or__" f0) (T : Tx P K mg) (C_Lexicon_MU_initU : CalID P w K mg base (L2.CX P w) 6 (He.ga K "Lexicon") ["self", "version", "words"] (.ref (He.dflAt ("Lexicon", some "__init__") 0 K)) (spLex K))  : CalM P w K mg base CX0 8 (He.ga K "Lexicon") "__or__" ["self", "other"] (spLOr K) := by
  refine ⟨f0, fd, M, F.bindsN bn_Lexicon_MU_orU, ok0 F sc_Lexicon_MU_orU (fun vs H Q E h => ?_) (fun f cdv A outer s H vs Q E hr h => ?_)⟩
  · first | (obtain ⟨rfl, _⟩ := h; rfl) | (obtain ⟨_, rfl, _⟩ := h; rfl) | (obtain ⟨_, _, rfl, _⟩ := h; rfl) | (obtain ⟨_, _, _, rfl, _⟩ := h; rfl) | (obtain ⟨_, _, _, _, rfl, _⟩ := h; rfl) | (obtain ⟨_, _, _, _, _, rfl, _⟩ := h; rfl) | (obtain ⟨_, _, _, _, _, _, rfl, _⟩ := h; rfl) | (obtain ⟨_, _, _, _, _, _, _, rfl, _⟩ := h; rfl) | (obtain ⟨_, _, _, _, _, _, _, _, rfl, _⟩ := h; rfl) | (obtain ⟨_, _, _, _, _, _, _, _, _, rfl, _⟩ := h; rfl)
  · skip
    refine ⟨_, (pss_one (ps_ret (Fx.pe_mk C_Lexicon_MU_initU.full (hr.mono (by decide)) T.g_Lexicon Fx.passX (Fx.pa_c (Fx.pe_fldK (K := K) rfl (pv 0) rfl) (Fx.pa_c (pe_op op_catA (Fx.pe_fldK (K := K) rfl (pv 0) rfl) (Fx.pe_fldK (K := K) rfl (pv 1) rfl)) pa_nil))))), ?_⟩
    obtain ⟨x, y, n, fs, ws, gs, us, rfl, hL, hM, hlen, q⟩ := h
    obtain ⟨ok, dx, p, p', hx, hp, hp'⟩ := id hL
    obtain ⟨ok2, dy, r, r', hy, hr1, hr2⟩ := id hM
    walk_at "rd"
    refine ⟨_, _, _, hx, T.cl_Lexicon, T.n_Lexicon_version, _, rfl, _, _, _, hx, T.cl_Lexicon, T.n_Lexicon_words, _, rfl, _, _, _, hy, T.cl_Lexicon, T.n_Lexicon_words, _, rfl, ?_⟩
    have lw : ws.length = fs.length := by rw [← ok.wd, List.length_map]
    have lu : us.length = gs.length := by rw [← ok2.wd, List.length_map]
    have go : ∀ (pw : Addr) (H1 : Hp), Same H H1 → SqT K H1 pw (ms (ws ++ us)) → ∀ (x_12 dx : Addr), H1 x_12 = none → H1 dx = none → dx ≠ x_12 → spLex K [V.ref x_12, .int n, .ref pw] (upd (upd H1 dx (HO.own x_12)) x_12 (HO.ins (He.ga K "Lexicon") dx [])) (fun v H2 => v = V.non ∧ Q (V.ref x_12) H2) E0 := by
      intro pw H1 s1 hq z dz nz ndz nez
      have sx : Same H1 (upd (upd H1 dz (.own z)) z (.ins (He.ga K "Lexicon") dz [])) := fun b o e => by
        rw [upd_ne (ne_of_none e nz), upd_ne (ne_of_none e ndz)]
        exact e
      have hq2 : SqT K (upd (upd H1 dz (.own z)) z (.ins (He.ga K "Lexicon") dz [])) pw (ms (ws ++ us)) := by
        rcases hq with (h | ⟨o, h⟩) | h
        · exact .inl (.inl (sx _ _ h))
        · exact .inl (.inr ⟨o, sx _ _ h⟩)
        · exact .inr h
      refine ⟨z, dz, _, pw, ms (ws ++ us), rfl, upd_same, .inr hq2, by rw [List.length_map, List.length_append]; omega, .inr (.inr ⟨n, ws ++ us, ⟨rfl, ok.n1, ok.n3⟩, rfl, fun a ha => ?_, fun H2 hs ts hlx hk hl2 => ⟨rfl, q z H2 hs ts ?_ hl2 fun f => ?_⟩⟩)⟩
      · rcases List.mem_append.mp ha with ha | ha
        · exact ok.ok a ha
        · exact ok2.ok a ha
      · intro b o e
        have e1 := s1 _ _ e
        exact hk b o (ne_of_none e1 nz) (sx _ _ e1)
      · rw [hlx.2 f, List.map_append, List.mem_append, ok.wd, ok2.wd]
    refine ⟨p', r', ms ws, ms us, rfl, rfl, hp'.sq, hr2.sq, by rw [List.length_map, List.length_map]; exact sz (by omega), fun e => ?_, fun _ e => ?_, fun _ _ pw npw => ?_⟩
    · have ew : ws = [] := by simpa [ms] using e
      have : ms (ws ++ us) = ms us := by rw [ew]; rfl
      exact go r' H (Same.refl H) (by rw [this]; exact hr2.sq)
    · have eu : us = [] := by simpa [ms] using e
      have : ms (ws ++ us) = ms ws := by rw [eu, List.append_nil]
      exact go p' H (Same.refl H) (by rw [this]; exact hp'.sq)
    · exact go pw _ (same_new npw) (.inl (.inl (by rw [upd_same, ms, ms, ms, List.map_append])))
end
section
variable {P : Program} {w : World} {K : PySem.W.Frag} {mg : Str → Option Value} {base : Heap}
theorem ok__law_bag (S : Src K mg "_law_bag" s__law_bag) (T : Tx P K mg)   : Cal P w K mg base CX0 1 "_law_bag" ["_law_script"] (spBag K) := by
  refine S.cal sc__law_bag bn__law_bag (fun vs H Q E h => ?_) (fun f cdv A outer s H vs Q E hr h => ?_)
  · first | (obtain ⟨rfl, _⟩ := h; rfl) | (obtain ⟨_, rfl, _⟩ := h; rfl) | (obtain ⟨_, _, rfl, _⟩ := h; rfl) | (obtain ⟨_, _, _, rfl, _⟩ := h; rfl) | (obtain ⟨_, _, _, _, rfl, _⟩ := h; rfl) | (obtain ⟨_, _, _, _, _, rfl, _⟩ := h; rfl) | (obtain ⟨_, _, _, _, _, _, rfl, _⟩ := h; rfl) | (obtain ⟨_, _, _, _, _, _, _, rfl, _⟩ := h; rfl) | (obtain ⟨_, _, _, _, _, _, _, _, rfl, _⟩ := h; rfl) | (obtain ⟨_, _, _, _, _, _, _, _, _, rfl, _⟩ := h; rfl)
  · skip
    refine ⟨_, (pss_cons (ps_set (i := 1) sc__law_bag.nd rfl (Or.inl rfl) pe_int)
        (pss_cons (ps_for PassesOwn.never rfl (pi_list (pv 0)) (pg_name (i := 2) sc__law_bag.nd rfl (Or.inl rfl)) (pss_one (ps_set (i := 1) sc__law_bag.nd rfl (Or.inl rfl) (pe_op op_mod (Fx.pe_cTy Fx.int_I T.b_int (by decide +kernel) (Fx.pa_c (pe_op op_add (pe_op op_add (pe_op op_mul (pv 1) pe_int) (pv 2)) pe_int) pa_nil)) pe_int))))
        (pss_one (ps_ret (pe_disp (pps_cons pe_str (pe_lc (own := [("_law_cell", 2)]) rfl sc__law_bag.nd (pi_list (pv 0)) (blkOk_by (N := N__law_bag) (sc := defScope s__law_bag) (by decide +kernel)) (fun _ _ _ _ _ => (pg_name (i := 2) sc__law_bag.nd rfl (Or.inl rfl))) (fun _ _ _ _ _ => pts_nil) (fun _ _ _ _ _ => (pv 2))) (pps_cons pe_str pe_int (pps_cons pe_str pe_int (pps_cons pe_str (pv 1) (pps_cons pe_str pe_int pps_nil))))) (by rfl) (by rfl) (fun z => by cases z) (by decide)))))), ?_⟩
    obtain ⟨a, ns, rfl, hS, hlen, q⟩ := h
    refine seqI fun K1 k1 => ?_
    walk_at "rd"
    refine k1 _ _ ?_
    refine seqI fun K2 k2 => ?_
    refine ⟨_, rfl, a, rfl, ⟨_, hS⟩, for_list (K := K) (a := a) (xs := ns.map V.int) (fun i σ H' => ∃ (m : Int) (v : Option V), σ = [some (.ref a), some (.int m), v] ∧ H' = H) ⟨7, none, rfl, rfl⟩ (fun i σ H' _ ⟨_, _, _, e⟩ => by rw [e]; exact hS) ?_ ?_⟩
    · rintro i y σ H' hi ⟨m, v, rfl, rfl⟩
      obtain ⟨z, rfl⟩ : ∃ z, y = V.int z := by
        rw [List.getElem?_map] at hi
        cases e : ns[i]? with
        | none => rw [e] at hi; cases hi
        | some z => rw [e] at hi; exact ⟨z, (Option.some.inj hi).symm⟩
      walk_at "rd"
      exact ⟨.inr ⟨by decide, by decide⟩, by decide⟩
    · rintro σ H' ⟨m, v, rfl, rfl⟩
      refine k2 _ _ ?_
      intro p np
      refine ⟨.ref a, rfl, a, rfl, ⟨_, (same_new np).seq hS⟩, fun D hD => ?_⟩
      have hDp : D ≠ p := fun e => by rw [e, upd_same] at hD; cases hD
      refine lc_list (K := K) (a := a) (xs := ns.map V.int) (fun i H2 => H2 = upd (upd H' p (.dK [])) D (.lst ((ns.map V.int).take i))) rfl (fun i H2 _ e => ?_) ?_ ?_
      · rw [e]
        exact ((same_new np).trans (same_new hD)).seq hS
      · rintro i x H2 hx rfl
        refine ⟨rfl, ?_⟩
        walk_at "rd"
        refine ⟨?_, ?_⟩
        · rw [List.length_take]
          exact Nat.lt_of_le_of_lt (Nat.min_le_right _ _) (by rw [List.length_map]; exact Nat.lt_of_le_of_lt hlen (by decide))
        · rw [upd_upd, List.take_add_one, hx]
          rfl
      · rintro H2 rfl
        simp only [tPairs]
        walk_at "rd"
        have hpD : p ≠ D := fun e => hDp e.symm
        refine ⟨by rw [upd_ne hpD, upd_same], [(.inr "cells", .ref D), (.inr "at", .int 0), (.inr "rest", .int 0), (.inr "mixed", .int m), (.inr "count", .int 0)], rfl, (show 5 ≤ 15 by decide), ?_⟩
        refine q p _ (fun b o e => ?_) np ⟨D, ns, 0, 0, m, 0, upd_same, ?_, by decide⟩
        · rw [upd_ne (ne_of_none e np), upd_ne (ne_of_none (same_new np (o := .dK []) b o e) hD), upd_ne (ne_of_none e np)]
          exact e
        · rw [upd_ne hDp, upd_same, List.take_length]
end
section
variable {P : Program} {w : World} {K : PySem.W.Frag} {mg : Str → Option Value} {base : Heap}
theorem ok__law_pick (S : Src K mg "_law_pick" s__law_pick) (T : Tx P K mg)   : Cal P w K mg base CX0 1 "_law_pick" ["_law_bag_here", "_law_many"] spPick := by
  refine S.cal sc__law_pick bn__law_pick (fun vs H Q E h => ?_) (fun f cdv A outer s H vs Q E hr h => ?_)
  · first | (obtain ⟨rfl, _⟩ := h; rfl) | (obtain ⟨_, rfl, _⟩ := h; rfl) | (obtain ⟨_, _, rfl, _⟩ := h; rfl) | (obtain ⟨_, _, _, rfl, _⟩ := h; rfl) | (obtain ⟨_, _, _, _, rfl, _⟩ := h; rfl) | (obtain ⟨_, _, _, _, _, rfl, _⟩ := h; rfl) | (obtain ⟨_, _, _, _, _, _, rfl, _⟩ := h; rfl) | (obtain ⟨_, _, _, _, _, _, _, rfl, _⟩ := h; rfl) | (obtain ⟨_, _, _, _, _, _, _, _, rfl, _⟩ := h; rfl) | (obtain ⟨_, _, _, _, _, _, _, _, _, rfl, _⟩ := h; rfl)
  · skip
    refine ⟨_, (pss_cons (ps_dput (hu_of hr) (pv 0) pe_str (pe_op op_add (pe_dget (hu_of hr) (pv 0) pe_str (fun _ _ => rfl)) pe_int) rfl)
        (pss_cons (ps_if (pt_cmpR op_gt (pe_dget (hu_of hr) (pv 0) pe_str (fun _ _ => rfl)) pe_int (nomark _)) (pss_cons (ps_set (i := 2) sc__law_pick.nd rfl (Or.inl rfl) (pe_dget (hu_of hr) (pv 0) pe_str (fun _ _ => rfl)))
        (pss_cons (ps_dput (hu_of hr) (pv 0) pe_str (pe_op op_fdiv (pv 2) (pv 1)) rfl)
        (pss_one (ps_ret (pe_op op_mod (Fx.pe_cTy Fx.int_I T.b_int (by decide +kernel) (Fx.pa_c (pv 2) pa_nil)) (pv 1)))))) pss_nil)
        (pss_cons (ps_set (i := 3) sc__law_pick.nd rfl (Or.inl rfl) pe_int)
        (pss_cons (ps_if (pt_cmpR op_lt (pe_dget (hu_of hr) (pv 0) pe_str (fun _ _ => rfl)) (Fx.pe_cB Fx.len_L T.b_len (by decide +kernel) (Fx.pa_c (pe_dget (hu_of hr) (pv 0) pe_str (fun _ _ => rfl)) pa_nil)) (nomark _)) (pss_cons (ps_set (i := 3) sc__law_pick.nd rfl (Or.inl rfl) (pe_ix Fx.ix_L (pe_dget (hu_of hr) (pv 0) pe_str (fun _ _ => rfl)) (pe_dget (hu_of hr) (pv 0) pe_str (fun _ _ => rfl)) (fun _ _ => rfl)))
        (pss_cons (ps_dput (hu_of hr) (pv 0) pe_str (pe_op op_add (pe_dget (hu_of hr) (pv 0) pe_str (fun _ _ => rfl)) pe_int) rfl)
        (pss_one (ps_if (pt_cmpR op_ge (pv 3) (pe_op op_pow pe_int pe_int) (nomark _)) (pss_cons (ps_dput (hu_of hr) (pv 0) pe_str (pe_op op_fdiv (pv 3) (pv 1)) rfl)
        (pss_one (ps_ret (pe_op op_mod (Fx.pe_cTy Fx.int_I T.b_int (by decide +kernel) (Fx.pa_c (pv 3) pa_nil)) (pv 1))))) pss_nil)))) pss_nil)
        (pss_cons (ps_set (i := 2) sc__law_pick.nd rfl (Or.inl rfl) (pe_op op_mod (Fx.pe_cTy Fx.int_I T.b_int (by decide +kernel) (Fx.pa_c (pe_op op_add (pe_op op_add (pe_op op_mul (pv 3) pe_int) (pe_op op_mul (pe_dget (hu_of hr) (pv 0) pe_str (fun _ _ => rfl)) pe_int)) (pe_op op_mul (pe_dget (hu_of hr) (pv 0) pe_str (fun _ _ => rfl)) pe_int)) pa_nil)) pe_int))
        (pss_cons (ps_set (i := 2) sc__law_pick.nd rfl (Or.inl rfl) (pe_op op_mod (Fx.pe_cTy Fx.int_I T.b_int (by decide +kernel) (Fx.pa_c (pe_op op_add (pe_op op_mul (pv 2) pe_int) pe_int) pa_nil)) pe_int))
        (pss_cons (ps_dput (hu_of hr) (pv 0) pe_str (pe_op op_mod (Fx.pe_cTy Fx.int_I T.b_int (by decide +kernel) (Fx.pa_c (pv 2) pa_nil)) pe_int) rfl)
        (pss_one (ps_ret (pe_op op_mod (Fx.pe_cTy Fx.int_I T.b_int (by decide +kernel) (Fx.pa_c (pe_op op_fdiv (pv 2) pe_int) pa_nil)) (pv 1))))))))))), ?_⟩
    obtain ⟨b, many, rfl, ⟨c, ns, a, r, m, n, hb, hc, ha⟩, h0, h1, q⟩ := h
    have hcb : c ≠ b := ne_of hc hb (by intro z; cases z)
    have hu : ∀ o, upd H b o c = some (.lst (ns.map V.int)) := fun o => by rw [upd_ne hcb]; exact hc
    walk_at "rd"
    simp only [dget_s hb, dput_s hb bag_len, dget_su, dput_su bag_len, bag_cells, bag_at, bag_rest, bag_mixed, bag_count, bag_atP, bag_restP, bag_mixedP, bag_countP, Option.some.injEq, exists_eq_left, exists_eq_left', V.int.injEq, V.ref.injEq, HO.lst.injEq, hu]
    have fin : ∀ (x y z u : Int) (n : Int), 0 ≤ n → n < many → 0 ≤ x → Q (.int n) (upd H b (.dK (bagKV c x y z u))) := fun x y z u n g1 g2 g3 =>
      q n _ g1 g2 ⟨fun p o hp e => by rw [upd_ne hp]; exact e, ⟨c, ns, x, y, z, u, upd_same, hu _, g3⟩, fun c' ⟨ns', x', y', z', u', e1, e2, e3⟩ => by
        rw [hb] at e1
        have ec : c = c' := by
          simp only [Option.some.injEq, HO.dK.injEq, bagKV, List.cons.injEq, Prod.mk.injEq, V.ref.injEq, true_and] at e1
          exact e1.1
        subst ec
        exact ⟨ns, x, y, z, u, upd_same, hu _, g3⟩⟩
    have mm : ∀ x : Int, 0 ≤ x % many ∧ x % many < many := fun x => ⟨Int.emod_nonneg _ (by omega), Int.emod_lt_of_pos _ h0⟩
    refine ite_i (fun hr => ⟨⟨h0, h1⟩, h0, fin _ _ _ _ _ (mm _).1 (mm _).2 ha⟩) (fun hr => ?_)
    refine ite_i (fun hl => ?_) (fun hl => ?_)
    · obtain ⟨x, ex⟩ := atI_ok ha hl
      refine ⟨.int x, ex, ?_⟩
      simp only [V.int.injEq, exists_eq_left', exists_eq_left]
      refine ⟨⟨by decide, by decide, by decide⟩, ite_i (fun hx => ⟨⟨h0, h1⟩, h0, fin _ _ _ _ _ (mm _).1 (mm _).2 (by omega)⟩) (fun hx => ?_)⟩
      exact ⟨.inr ⟨by decide, by decide⟩, .inr ⟨by decide, by decide⟩, .inr ⟨by decide, by decide⟩, by decide, .inr ⟨by decide, by decide⟩, by decide, by decide, ⟨by decide, by decide⟩, h0, fin _ _ _ _ _ (mm _).1 (mm _).2 (by omega)⟩
    · exact ⟨.inr ⟨by decide, by decide⟩, .inr ⟨by decide, by decide⟩, .inr ⟨by decide, by decide⟩, by decide, .inr ⟨by decide, by decide⟩, by decide, by decide, ⟨by decide, by decide⟩, h0, fin _ _ _ _ _ (mm _).1 (mm _).2 ha⟩
end
section
variable {P : Program} {w : World} {K : PySem.W.Frag} {mg : Str → Option Value} {base : Heap}
theorem ok__law_integer (S : Src K mg "_law_integer" s__law_integer) (T : Tx P K mg)   : Cal P w K mg base CX0 1 "_law_integer" ["_law_thing"] spInteger := by
  refine S.cal sc__law_integer bn__law_integer (fun vs H Q E h => ?_) (fun f cdv A outer s H vs Q E hr h => ?_)
  · first | (obtain ⟨rfl, _⟩ := h; rfl) | (obtain ⟨_, rfl, _⟩ := h; rfl) | (obtain ⟨_, _, rfl, _⟩ := h; rfl) | (obtain ⟨_, _, _, rfl, _⟩ := h; rfl) | (obtain ⟨_, _, _, _, rfl, _⟩ := h; rfl) | (obtain ⟨_, _, _, _, _, rfl, _⟩ := h; rfl) | (obtain ⟨_, _, _, _, _, _, rfl, _⟩ := h; rfl) | (obtain ⟨_, _, _, _, _, _, _, rfl, _⟩ := h; rfl) | (obtain ⟨_, _, _, _, _, _, _, _, rfl, _⟩ := h; rfl) | (obtain ⟨_, _, _, _, _, _, _, _, _, rfl, _⟩ := h; rfl)
  · skip
    refine ⟨_, (pss_one (ps_ret (pe_and (Fx.pe_cB Fx.is_B T.b_isinstance (by decide +kernel) (Fx.pa_c (pv 0) (Fx.pa_c (pe_bltn (v := .ty "int") (by rfl) T.b_int (by decide +kernel) rfl) pa_nil))) (pe_one (pe_not (Fx.pe_cB Fx.is_B T.b_isinstance (by decide +kernel) (Fx.pa_c (pv 0) (Fx.pa_c (pe_bltn (v := .ty "bool") (by rfl) T.b_bool (by decide +kernel) rfl) pa_nil)))))))), ?_⟩
    obtain ⟨i, rfl, q⟩ := h
    walk_at "rd"
    exact q
end
section
variable {P : Program} {w : World} {K : PySem.W.Frag} {mg : Str → Option Value} {base : Heap}
theorem ok__law_codes (S : Src K mg "_law_codes" s__law_codes) (T : Tx P K mg)   : Cal P w K mg base CX0 1 "_law_codes" ["_law_sign"] spLCodes := by
  refine S.cal sc__law_codes bn__law_codes (fun vs H Q E h => ?_) (fun f cdv A outer s H vs Q E hr h => ?_)
  · first | (obtain ⟨rfl, _⟩ := h; rfl) | (obtain ⟨_, rfl, _⟩ := h; rfl) | (obtain ⟨_, _, rfl, _⟩ := h; rfl) | (obtain ⟨_, _, _, rfl, _⟩ := h; rfl) | (obtain ⟨_, _, _, _, rfl, _⟩ := h; rfl) | (obtain ⟨_, _, _, _, _, rfl, _⟩ := h; rfl) | (obtain ⟨_, _, _, _, _, _, rfl, _⟩ := h; rfl) | (obtain ⟨_, _, _, _, _, _, _, rfl, _⟩ := h; rfl) | (obtain ⟨_, _, _, _, _, _, _, _, rfl, _⟩ := h; rfl) | (obtain ⟨_, _, _, _, _, _, _, _, _, rfl, _⟩ := h; rfl)
  · skip
    refine ⟨_, (pss_cons (ps_set (i := 1) sc__law_codes.nd rfl (Or.inl rfl) (pe_lst (Fx.pa_c pe_str (Fx.pa_c pe_str (Fx.pa_c pe_str pa_nil)))))
        (pss_cons (ps_for PassesOwn.never rfl (pi_range1 rfl T.b_range (Fx.pa_c pe_int pa_nil)) (pg_name (i := 2) sc__law_codes.nd rfl (Or.inl rfl)) (pss_cons (ps_set (i := 3) sc__law_codes.nd rfl (Or.inl rfl) (pe_m1 PySem.F.slot_str_find PySem.F.type_str_find mt_find (pe_ix Fx.ix_L (pv 1) (pv 2) (fun _ _ => rfl)) (pv 0)))
        (pss_one (ps_if (pt_cmpR op_ge (pv 3) pe_int (nomark _)) (pss_one (ps_ret (pe_ix Fx.ix_L (pe_lst (Fx.pa_c (pe_lst (Fx.pa_c (pv 3) pa_nil)) (Fx.pa_c (pe_lst (Fx.pa_c pe_int (Fx.pa_c (pv 3) pa_nil))) (Fx.pa_c (pe_lst (Fx.pa_c pe_int (Fx.pa_c (pv 3) pa_nil))) pa_nil)))) (pv 2) (fun _ _ => rfl)))) pss_nil))))
        (pss_one (ps_ret (pe_lst (Fx.pa_c pe_int (Fx.pa_c (pe_op op_fdiv (Fx.pe_cB Fx.ord_S T.b_ord (by decide +kernel) (Fx.pa_c (pv 0) pa_nil)) pe_int) (Fx.pa_c (pe_op op_mod (Fx.pe_cTy Fx.int_I T.b_int (by decide +kernel) (Fx.pa_c (Fx.pe_cB Fx.ord_S T.b_ord (by decide +kernel) (Fx.pa_c (pv 0) pa_nil)) pa_nil)) pe_int) pa_nil)))))))), ?_⟩
    obtain ⟨c, rfl, q⟩ := h
    refine seqI fun K1 k1 => ?_
    walk_at "rd"
    refine ⟨by decide, fun p np => k1 _ _ ?_⟩
    refine seqI fun K2 k2 => ?_
    refine ⟨3, rfl, by decide, by decide, for_range (lo := 0) (n := 3) (fun i σ H' => ∃ v2 v3, σ = [some (.str (S1 c)), some (.ref p), v2, v3] ∧ H' = upd H p (.lst [.str rowA, .str rowB, .str rowC]) ∧ (1 ≤ i → ¬ 0 ≤ Txt.find rowA (S1 c)) ∧ (2 ≤ i → ¬ 0 ≤ Txt.find rowB (S1 c)) ∧ (3 ≤ i → ¬ 0 ≤ Txt.find rowC (S1 c))) ⟨none, none, rfl, rfl, by omega, by omega, by omega⟩ ?_ ?_⟩
    · rintro i σ H' hi ⟨v2, v3, rfl, rfl, g1, g2, g3⟩
      have fin : ∀ (r : V) (p1 p2 p3 p4 : Addr) (x1 x2 x3 x4 : List V), (upd H p (.lst [.str rowA, .str rowB, .str rowC])) p1 = none → (upd (upd H p (.lst [.str rowA, .str rowB, .str rowC])) p1 (.lst x1)) p2 = none →
          (upd (upd (upd H p (.lst [.str rowA, .str rowB, .str rowC])) p1 (.lst x1)) p2 (.lst x2)) p3 = none → (upd (upd (upd (upd H p (.lst [.str rowA, .str rowB, .str rowC])) p1 (.lst x1)) p2 (.lst x2)) p3 (.lst x3)) p4 = none →
          ((r = .ref p1 ∧ x1 = (codeL c).map V.int) ∨ (r = .ref p2 ∧ x2 = (codeL c).map V.int) ∨ (r = .ref p3 ∧ x3 = (codeL c).map V.int)) → Q r (upd (upd (upd (upd (upd H p (.lst [.str rowA, .str rowB, .str rowC])) p1 (.lst x1)) p2 (.lst x2)) p3 (.lst x3)) p4 (.lst x4)) := by
        intro r p1 p2 p3 p4 x1 x2 x3 x4 n1 n2 n3 n4 hr
        have s0 : Same H (upd H p (.lst [.str rowA, .str rowB, .str rowC])) := same_new np
        have s1 := same_new (o := .lst x1) n1
        have s2 := same_new (o := .lst x2) n2
        have s3 := same_new (o := .lst x3) n3
        have s4 := same_new (o := .lst x4) n4
        rcases hr with ⟨rfl, e⟩ | ⟨rfl, e⟩ | ⟨rfl, e⟩
        · exact q p1 _ (s0.trans (s1.trans (s2.trans (s3.trans s4)))) (s0.free n1) (by rw [← e]; exact s4 _ _ (s3 _ _ (s2 _ _ upd_same)))
        · exact q p2 _ (s0.trans (s1.trans (s2.trans (s3.trans s4)))) (s0.free (s1.free n2)) (by rw [← e]; exact s4 _ _ (s3 _ _ upd_same))
        · exact q p3 _ (s0.trans (s1.trans (s2.trans (s3.trans s4)))) (s0.free (s1.free (s2.free n3))) (by rw [← e]; exact s4 _ _ upd_same)
      rcases (by omega : i = 0 ∨ i = 1 ∨ i = 2) with rfl | rfl | rfl
      · walk_at "rd"
        refine ⟨.str rowA, rfl, ?_⟩
        walk_at "rd"
        refine ite_i (fun h1 => ⟨by decide, fun p1 n1 => ⟨by decide, fun p2 n2 => ⟨by decide, fun p3 n3 => ⟨by decide, fun p4 n4 => ⟨_, rfl, fin _ _ _ _ _ _ _ _ _ n1 n2 n3 n4 (.inl ⟨rfl, ?_⟩)⟩⟩⟩⟩⟩) (fun h1 => ⟨fun _ => h1, by omega, by omega⟩)
        unfold codeL
        rw [if_pos h1]
        rfl
      · walk_at "rd"
        refine ⟨.str rowB, rfl, ?_⟩
        walk_at "rd"
        refine ite_i (fun h2 => ⟨by decide, fun p1 n1 => ⟨by decide, fun p2 n2 => ⟨by decide, fun p3 n3 => ⟨by decide, fun p4 n4 => ⟨_, rfl, fin _ _ _ _ _ _ _ _ _ n1 n2 n3 n4 (.inr (.inl ⟨rfl, ?_⟩))⟩⟩⟩⟩⟩) (fun h2 => ⟨fun _ => g1 (by omega), fun _ => h2, by omega⟩)
        unfold codeL
        rw [if_neg (g1 (by omega)), if_pos h2]
        rfl
      · walk_at "rd"
        refine ⟨.str rowC, rfl, ?_⟩
        walk_at "rd"
        refine ite_i (fun h3 => ⟨by decide, fun p1 n1 => ⟨by decide, fun p2 n2 => ⟨by decide, fun p3 n3 => ⟨by decide, fun p4 n4 => ⟨_, rfl, fin _ _ _ _ _ _ _ _ _ n1 n2 n3 n4 (.inr (.inr ⟨rfl, ?_⟩))⟩⟩⟩⟩⟩) (fun h3 => ⟨fun _ => g1 (by omega), fun _ => g2 (by omega), fun _ => h3⟩)
        unfold codeL
        rw [if_neg (g1 (by omega)), if_neg (g2 (by omega)), if_pos h3]
        rfl
    · rintro σ H' ⟨v2, v3, rfl, rfl, g1, g2, g3⟩
      refine k2 _ _ ?_
      walk_at "rd"
      refine ⟨rfl, ⟨by decide, by decide⟩, rfl, by decide, by decide, fun l nl => q l _ ((same_new np).trans (same_new nl)) ((same_new np (o := .lst [.str rowA, .str rowB, .str rowC])).free nl) ?_⟩
      rw [upd_same]
      unfold codeL
      rw [if_neg (g1 (by omega)), if_neg (g2 (by omega)), if_neg (g3 (by omega))]
      rfl
end
section
variable {P : Program} {w : World} {K : PySem.W.Frag} {mg : Str → Option Value} {base : Heap}
theorem ok__law_cut (S : Src K mg "_law_cut" s__law_cut) (T : Tx P K mg) (C__law_codes : Cal P w K mg base CX0 1 "_law_codes" ["_law_sign"] spLCodes)  : Cal P w K mg base CX0 2 "_law_cut" ["_law_version", "_law_word"] spLCut := by
  refine S.cal sc__law_cut bn__law_cut (fun vs H Q E h => ?_) (fun f cdv A outer s H vs Q E hr h => ?_)
  · first | (obtain ⟨rfl, _⟩ := h; rfl) | (obtain ⟨_, rfl, _⟩ := h; rfl) | (obtain ⟨_, _, rfl, _⟩ := h; rfl) | (obtain ⟨_, _, _, rfl, _⟩ := h; rfl) | (obtain ⟨_, _, _, _, rfl, _⟩ := h; rfl) | (obtain ⟨_, _, _, _, _, rfl, _⟩ := h; rfl) | (obtain ⟨_, _, _, _, _, _, rfl, _⟩ := h; rfl) | (obtain ⟨_, _, _, _, _, _, _, rfl, _⟩ := h; rfl) | (obtain ⟨_, _, _, _, _, _, _, _, rfl, _⟩ := h; rfl) | (obtain ⟨_, _, _, _, _, _, _, _, _, rfl, _⟩ := h; rfl)
  · skip
    refine ⟨_, (pss_cons (ps_set (i := 2) sc__law_cut.nd rfl (Or.inl rfl) (pe_lst pa_nil))
        (pss_cons (ps_for PassesOwn.never rfl (pi_str (pv 1)) (pg_name (i := 3) sc__law_cut.nd rfl (Or.inl rfl)) (pss_one (ps_expr (pe_bm PySem.F.plainAttrs_list PySem.F.slot_list_extend PySem.F.type_list_extend mt_extend (pv 2) (Fx.pa_c (Fx.pe_cal C__law_codes (hr.mono (by decide)) pass0 (Fx.pa_c (pv 3) pa_nil)) pa_nil)))))
        (pss_cons (ps_expr (pe_bm PySem.F.plainAttrs_list PySem.F.slot_list_extend PySem.F.type_list_extend mt_extend (pv 2) (Fx.pa_c (pe_op op_rep (pe_lst (Fx.pa_c pe_int pa_nil)) pe_int) pa_nil)))
        (pss_one (ps_ret (pe_m1 PySem.F.slot_str_join PySem.F.type_str_join Fx.mt_jn pe_str (pe_lc (own := [("_law_one", 4)]) rfl sc__law_cut.nd (pi_list (pe_slice Fx.sl_L (pv 2) po_none (po_some (pe_op op_add (pe_op op_mul pe_int (pv 0)) pe_int)))) (blkOk_by (N := N__law_cut) (sc := defScope s__law_cut) (by decide +kernel)) (fun _ _ _ _ _ => (pg_name (i := 4) sc__law_cut.nd rfl (Or.inl rfl))) (fun _ _ _ _ _ => pts_nil) (fun _ _ _ _ _ => (pe_ix Fx.ix_S pe_str (pv 4) (fun _ _ => rfl)))))))))), ?_⟩
    obtain ⟨n, z, rfl, n1, n3, hz, hw, q⟩ := h
    refine seqI fun K1 k1 => ?_
    walk_at "rd"
    refine ⟨by decide, fun p np => k1 _ _ ?_⟩
    clear k1
    refine seqI fun K1 k1 => ?_
    refine ⟨.str z, rfl, z, rfl, for_S (z := z) (fun i σ H' => ∃ v, σ = [some (.int n), some (.str z), some (.ref p), v, none] ∧ H' p = some (.lst (mi (((z.cps.toList.take i).map codeL).flatten))) ∧ Same H H') ⟨none, rfl, upd_same, same_new np⟩ ?_ ?_⟩
    · rintro i c σ H' hc ⟨v, rfl, hp, sH⟩
      clear k1
      walk_at "rd"
      refine ⟨tyL hp, c, rfl, fun p1 H1 s1 n1 h1 => ⟨p1, rfl, _, s1 _ _ hp, _, h1, ?_, ?_, Same.put (sH.trans s1) np⟩⟩
      · have l1 := flat_len (z.cps.toList.take i)
        have l2 := codeL_len c
        rw [List.length_take] at l1
        have lz : z.cps.toList.length ≤ 1000 := by rw [Array.length_toList]; exact hz
        rw [mi_len, List.length_map]
        exact sz (by omega)
      · rw [List.take_add_one, hc]
        simp
    · rintro σ H1 ⟨v, rfl, hp, s1⟩
      refine k1 _ _ ?_
      clear k1
      have lcl : (clist z).length ≤ 3000 := by
        have := flat_len z.cps.toList
        have lz : z.cps.toList.length ≤ 1000 := by rw [Array.length_toList]; exact hz
        unfold clist
        omega
      rw [List.take_length] at hp
      have hp : H1 p = some (.lst (mi (clist z))) := hp
      refine seqI fun K1 k1 => ?_
      walk_at "rd"
      refine ⟨tyL hp, by decide, fun p1 n1 => ⟨by decide, by decide, (show 1 * 16 ≤ sizeLine by decide), fun p2 n2 => ?_⟩⟩
      have t1 := same_new (o := .lst [.int 15]) n1
      have t2 := same_new (o := .lst ((List.replicate (Int.toNat 16) [V.int 15]).flatten)) n2
      refine ⟨_, t2 _ _ (t1 _ _ hp), (by rw [mi_len]; exact sz (show (clist z).length + 16 ≤ 100000 by omega)), k1 _ _ ?_⟩
      clear k1
      have ee : mi (clist z) ++ (List.replicate (Int.toNat 16) [V.int 15]).flatten = mi (clist z ++ List.replicate 16 15) := by rw [mi_app]; rfl
      rw [ee]
      have s3 := Same.put (o := .lst (mi (clist z ++ List.replicate 16 15))) ((s1.trans t1).trans t2) np
      have hp3 : (upd (upd (upd H1 p1 (.lst [.int 15])) p2 (.lst ((List.replicate (Int.toNat 16) [V.int 15]).flatten))) p (.lst (mi (clist z ++ List.replicate 16 15)))) p = some (.lst (mi (clist z ++ List.replicate 16 15))) := upd_same
      generalize upd (upd (upd H1 p1 (.lst [.int 15])) p2 (.lst ((List.replicate (Int.toNat 16) [V.int 15]).flatten))) p (.lst (mi (clist z ++ List.replicate 16 15))) = H3 at s3 hp3
      obtain ⟨k, ek⟩ : ∃ k : Nat, 4 * n + 4 = (k : Int) := ⟨(4 * n + 4).toNat, by omega⟩
      unfold cutT at q
      rw [ek, Int.toNat_natCast] at q
      have hin : ∀ x ∈ (clist z ++ List.replicate 16 15).take k, 0 ≤ x ∧ x ≤ 15 := by
        intro x hx
        rcases List.mem_append.mp (List.mem_of_mem_take hx) with hx | hx
        · exact clist_ok hw x hx
        · rw [(List.mem_replicate.mp hx).2]
          omega
      refine ⟨⟨_, rfl⟩, .ref p, rfl, _, rfl, _, _, rfl, rfl, .inl ⟨by decide, by decide⟩, _, _, rfl, rfl, _, rfl, ?_⟩
      refine ⟨p, _, rfl, hp3, fun p4 n4 => ⟨p4, rfl, ⟨_, .inl (.inl upd_same)⟩, fun D nD => ?_⟩⟩
      rw [ek, cutV_hi, mi_take] at *
      have s4 := same_new (o := .lst (mi ((clist z ++ List.replicate 16 15).take k))) n4
      have hp2 : (upd H3 p4 (.lst (mi ((clist z ++ List.replicate 16 15).take k)))) p4 = some (.lst (mi ((clist z ++ List.replicate 16 15).take k))) := upd_same
      generalize upd H3 p4 (.lst (mi ((clist z ++ List.replicate 16 15).take k))) = H4 at s4 hp2 nD
      have ll : ((clist z ++ List.replicate 16 15).take k).length ≤ 4000 := by
        rw [List.length_take, List.length_append, List.length_replicate]
        omega
      clear hp3 n4
      generalize (clist z ++ List.replicate 16 15).take k = cl at *
      refine lc_list (K := K) (a := p4) (xs := mi cl) (fun i H5 => H5 = upd H4 D (.lst (((cl.take i).map fun c => S1 (hexc c)).map V.str))) rfl (fun i H5 _ e => ?_) ?_ ?_
      · rw [e]
        exact .inl (.inl (same_new nD _ _ hp2))
      · rintro i x H5 hx rfl
        obtain ⟨y, rfl, hy⟩ := mapI_some hx
        have hb := hin y (List.mem_of_getElem? hy)
        have hi := (List.getElem?_eq_some_iff.mp hy).1
        refine ⟨rfl, ?_⟩
        walk_at "rd"
        refine ⟨by decide, _, hex_get hb.1 hb.2, ?_, ?_⟩
        · rw [List.length_map, List.length_map, List.length_take]
          exact Nat.lt_of_lt_of_le (by omega : _ < 5000) (by decide)
        · rw [upd_upd, List.take_add_one, hy]
          simp
      · rintro H5 rfl
        rw [List.take_of_length_le (by rw [mi_len]; exact Nat.le_refl _)]
        refine ⟨_, D, cl.map fun c => S1 (hexc c), rfl, rfl, upd_same, ?_, q _ (s3.trans (s4.trans (same_new nD)))⟩
        rw [ones_sum]
        have e2 : (("" : Str)).length = 0 := rfl
        rw [e2]
        omega
end
section
variable {P : Program} {w : World} {K : PySem.W.Frag} {mg : Str → Option Value} {base : Heap}
theorem ok__law_distinct (S : Src K mg "_law_distinct" s__law_distinct) (T : Tx P K mg)   : Cal P w K mg base CX0 1 "_law_distinct" ["_law_words"] spDist := by
  refine S.cal sc__law_distinct bn__law_distinct (fun vs H Q E h => ?_) (fun f cdv A outer s H vs Q E hr h => ?_)
  · first | (obtain ⟨rfl, _⟩ := h; rfl) | (obtain ⟨_, rfl, _⟩ := h; rfl) | (obtain ⟨_, _, rfl, _⟩ := h; rfl) | (obtain ⟨_, _, _, rfl, _⟩ := h; rfl) | (obtain ⟨_, _, _, _, rfl, _⟩ := h; rfl) | (obtain ⟨_, _, _, _, _, rfl, _⟩ := h; rfl) | (obtain ⟨_, _, _, _, _, _, rfl, _⟩ := h; rfl) | (obtain ⟨_, _, _, _, _, _, _, rfl, _⟩ := h; rfl) | (obtain ⟨_, _, _, _, _, _, _, _, rfl, _⟩ := h; rfl) | (obtain ⟨_, _, _, _, _, _, _, _, _, rfl, _⟩ := h; rfl)
  · skip
    refine ⟨_, (pss_cons (ps_set (i := 1) sc__law_distinct.nd rfl (Or.inl rfl) (pe_lst pa_nil))
        (pss_cons (ps_for PassesOwn.never rfl (pi_list (pv 0)) (pg_name (i := 2) sc__law_distinct.nd rfl (Or.inl rfl)) (pss_one (ps_if (pt_cmpR Fx.notIn_S (pv 2) (pv 1) rfl) (pss_one (ps_expr (pe_bm PySem.F.plainAttrs_list PySem.F.slot_list_append PySem.F.type_list_append mt_append (pv 1) (Fx.pa_c (pv 2) pa_nil)))) pss_nil)))
        (pss_one (ps_ret (Fx.pe_cB Fx.sort_S T.b_sorted (by decide +kernel) (Fx.pa_c (pv 1) pa_nil)))))), ?_⟩
    obtain ⟨p, l, rfl, hp, hl, q⟩ := h
    refine seqI fun K1 k1 => ?_
    walk_at "rd"
    refine ⟨by decide, fun pf nf => k1 _ _ ?_⟩
    clear k1
    have hpf : p ≠ pf := ne_of_none hp nf
    refine seqI fun K1 k1 => ?_
    refine ⟨_, rfl, p, rfl, ⟨_, .inl (.inl (same_new nf _ _ hp))⟩, for_list (K := K) (a := p) (xs := ms l) (fun i σ H' => ∃ (v2 : Option V) (ys : List Str), σ = [some (.ref p), some (.ref pf), v2] ∧ ys.Nodup ∧ (∀ f, f ∈ ys ↔ f ∈ l.take i) ∧ ys.length ≤ i ∧ H' = upd H pf (.lst (ms ys))) ⟨none, [], rfl, List.nodup_nil, fun f => by simp, Nat.le_refl _, rfl⟩ (fun i σ H' _ ⟨_, _, _, _, _, _, e⟩ => by rw [e]; exact .inl (.inl (same_new nf _ _ hp))) ?_ ?_⟩
    · rintro i y σ H' hy ⟨v2, ys, rfl, nd, hm, ly, rfl⟩
      clear k1
      have hi := (List.getElem?_eq_some_iff.mp hy).1
      rw [List.length_map] at hi
      rw [List.getElem?_map, List.getElem?_eq_getElem hi] at hy
      have ey : y = .str l[i] := (Option.some.inj hy).symm
      subst ey
      have tk : ∀ f, f ∈ List.take (i + 1) l ↔ f ∈ List.take i l ∨ f = l[i] := fun f => by
        rw [List.take_add_one, List.getElem?_eq_getElem hi, List.mem_append]
        simp
      walk_at "rd"
      refine ⟨ys, .inl upd_same, ite_i (fun h => ?_) (fun h => ?_)⟩
      · refine ⟨ys, nd, fun f => ?_, by omega, rfl⟩
        rw [tk f, hm f]
        constructor
        · exact .inl
        · rintro (h1 | h1)
          · exact h1
          · rw [h1]
            exact (hm _).mp h
      · refine ⟨tyL upd_same, ?_, ys ++ [l[i]], ?_, fun f => ?_, ?_, ?_⟩
        · rw [List.length_map]
          exact Nat.lt_of_lt_of_le (by omega : _ < 1000) (by decide)
        · rw [List.nodup_append]
          refine ⟨nd, by simp, fun a ha b hb => ?_⟩
          have eb : b = l[i] := by simpa using hb
          rw [eb]
          intro e
          exact h (e ▸ ha)
        · rw [tk f, List.mem_append, hm f]
          simp
        · rw [List.length_append]
          show ys.length + 1 ≤ i + 1
          omega
        · rw [upd_upd, ms, ms, List.map_append]
          rfl
    rintro σ H' ⟨v2, ys, rfl, nd, hm, ly, rfl⟩
    refine k1 _ _ ?_
    clear k1
    walk_at "rd"
    rw [List.length_map, List.take_length] at hm
    have s1 := same_new (o := .lst (ms ys)) nf
    exact ⟨ys, rfl, fun zs q1 perm so nq => q q1 zs _ (s1.trans (same_new nq)) ⟨so, perm.nodup_iff.mpr nd, fun f => perm.mem_iff.trans (hm f)⟩ (s1.free nq) upd_same⟩
end
section
variable {P : Program} {w : World} {K : PySem.W.Frag} {mg : Str → Option Value} {base : Heap}
theorem ok__law_typed (S : Src K mg "_law_typed" s__law_typed) (T : Tx P K mg) (C__law_pick : Cal P w K mg base CX0 1 "_law_pick" ["_law_bag_here", "_law_many"] spPick)  : Cal P w K mg base CX0 2 "_law_typed" ["_law_bag_here", "_law_pool"] spTyped := by
  refine S.cal sc__law_typed bn__law_typed (fun vs H Q E h => ?_) (fun f cdv A outer s H vs Q E hr h => ?_)
  · first | (obtain ⟨rfl, _⟩ := h; rfl) | (obtain ⟨_, rfl, _⟩ := h; rfl) | (obtain ⟨_, _, rfl, _⟩ := h; rfl) | (obtain ⟨_, _, _, rfl, _⟩ := h; rfl) | (obtain ⟨_, _, _, _, rfl, _⟩ := h; rfl) | (obtain ⟨_, _, _, _, _, rfl, _⟩ := h; rfl) | (obtain ⟨_, _, _, _, _, _, rfl, _⟩ := h; rfl) | (obtain ⟨_, _, _, _, _, _, _, rfl, _⟩ := h; rfl) | (obtain ⟨_, _, _, _, _, _, _, _, rfl, _⟩ := h; rfl) | (obtain ⟨_, _, _, _, _, _, _, _, _, rfl, _⟩ := h; rfl)
  · skip
    refine ⟨_, (pss_cons (ps_if (pt_cmpR op_eq (Fx.pe_cal C__law_pick (hr.mono (by decide)) pass0 (Fx.pa_c (pv 0) (Fx.pa_c pe_int pa_nil))) pe_int (nomark _)) (pss_one (ps_ret pe_str)) pss_nil)
        (pss_cons (ps_set (i := 2) sc__law_typed.nd rfl (Or.inr rfl) pe_str)
        (pss_cons (ps_set (i := 3) sc__law_typed.nd rfl (Or.inl rfl) (Fx.pe_cal C__law_pick (hr.mono (by decide)) pass0 (Fx.pa_c (pv 0) (Fx.pa_c pe_int pa_nil))))
        (pss_cons (ps_set (i := 2) sc__law_typed.nd rfl (Or.inr rfl) (pe_slice sl_str (pe_op op_add_str (pv 2) (pv 2)) (po_some (pv 3)) (po_some (pe_op op_add (pe_op op_add (pv 3) pe_int) (Fx.pe_cal C__law_pick (hr.mono (by decide)) pass0 (Fx.pa_c (pv 0) (Fx.pa_c pe_int pa_nil)))))))
        (pss_cons (ps_set (i := 4) sc__law_typed.nd rfl (Or.inl rfl) (pe_op op_add pe_int (Fx.pe_cal C__law_pick (hr.mono (by decide)) pass0 (Fx.pa_c (pv 0) (Fx.pa_c (pe_ix Fx.ix_L (pe_lst (Fx.pa_c pe_int (Fx.pa_c pe_int pa_nil))) (Fx.pe_cal C__law_pick (hr.mono (by decide)) pass0 (Fx.pa_c (pv 0) (Fx.pa_c pe_int pa_nil))) (fun _ _ => rfl)) pa_nil)))))
        (pss_cons (ps_set (i := 5) sc__law_typed.nd rfl (Or.inl rfl) (pe_m1 PySem.F.slot_str_join PySem.F.type_str_join Fx.mt_jn pe_str (pe_lc (own := [("_law_step", 8)]) rfl sc__law_typed.nd (pi_range1 rfl T.b_range (Fx.pa_c (pv 4) pa_nil)) (blkOk_by (N := N__law_typed) (sc := defScope s__law_typed) (by decide +kernel)) (fun _ _ _ _ _ => (pg_name (i := 8) sc__law_typed.nd rfl (Or.inl rfl))) (fun _ _ _ _ _ => pts_nil) (fun _ _ _ _ _ => (pe_ix Fx.ix_S (pv 2) (Fx.pe_cal C__law_pick (hr.mono (by decide)) pass0 (Fx.pa_c (pv 0) (Fx.pa_c (Fx.pe_cB Fx.len_S T.b_len (by decide +kernel) (Fx.pa_c (pv 2) pa_nil)) pa_nil))) (fun _ _ => rfl))))))
        (pss_cons (ps_set (i := 6) sc__law_typed.nd rfl (Or.inl rfl) (Fx.pe_cal C__law_pick (hr.mono (by decide)) pass0 (Fx.pa_c (pv 0) (Fx.pa_c pe_int pa_nil))))
        (pss_cons (ps_if (pt_cmpR op_eq (pv 6) pe_int (nomark _)) (pss_one (ps_set (i := 5) sc__law_typed.nd rfl (Or.inl rfl) (pe_op op_add_str (pe_op Fx.op_mul_str (pe_ix Fx.ix_S pe_str (Fx.pe_cal C__law_pick (hr.mono (by decide)) pass0 (Fx.pa_c (pv 0) (Fx.pa_c pe_int pa_nil))) (fun _ _ => rfl)) (pe_ix Fx.ix_L (pe_lst (Fx.pa_c pe_int (Fx.pa_c pe_int (Fx.pa_c pe_int (Fx.pa_c pe_int (Fx.pa_c pe_int (Fx.pa_c pe_int pa_nil))))))) (Fx.pe_cal C__law_pick (hr.mono (by decide)) pass0 (Fx.pa_c (pv 0) (Fx.pa_c pe_int pa_nil))) (fun _ _ => rfl))) (pv 5)))) (pss_one (ps_if (PW.pt (pw_and (pt_cmpR op_gt (pv 6) pe_int (nomark _)) (pw_and1 (pt_truth (pv 1) (by intro _; rfl))))) (pss_cons (ps_set (i := 7) sc__law_typed.nd rfl (Or.inl rfl) (pe_ix Fx.ix_L (pv 1) (Fx.pe_cal C__law_pick (hr.mono (by decide)) pass0 (Fx.pa_c (pv 0) (Fx.pa_c (Fx.pe_cB Fx.len_L T.b_len (by decide +kernel) (Fx.pa_c (pv 1) pa_nil)) pa_nil))) (fun _ _ => rfl)))
        (pss_one (ps_if (pt_cmpR op_ne (pv 7) pe_str (nomark _)) (pss_one (ps_set (i := 5) sc__law_typed.nd rfl (Or.inl rfl) (pe_op op_add_str (pe_slice sl_str (pv 7) po_none (po_some (pe_op op_add pe_int (Fx.pe_cal C__law_pick (hr.mono (by decide)) pass0 (Fx.pa_c (pv 0) (Fx.pa_c (Fx.pe_cB Fx.len_S T.b_len (by decide +kernel) (Fx.pa_c (pv 7) pa_nil)) pa_nil)))))) (pv 5)))) pss_nil))) pss_nil)))
        (pss_one (ps_ret (pe_slice sl_str (pv 5) po_none (po_some pe_int)))))))))))), ?_⟩
    obtain ⟨b, p, ws, rfl, hB, hp, hl, hw, q⟩ := h
    refine seqI fun K1 k1 => ?_
    walk_at "rd"
    refine ⟨b, 12, rfl, hB, by decide, by decide, fun n H1 n0 n1 kp1 => ?_⟩
    walk_at "rd"
    refine ite_i (fun h0 => q "," H1 (by decide +kernel) (by decide) kp1) (fun h0 => k1 _ _ ?_)
    clear k1
    refine seqI fun K1 k1 => ?_
    walk_at "rd"
    refine k1 _ _ ?_
    clear k1
    refine seqI fun K1 k1 => ?_
    walk_at "rd"
    refine ⟨b, 38, rfl, kp1.bag, by decide, by decide, fun at_ H2 a0 a1 kp2 => k1 _ _ ?_⟩
    clear k1
    refine seqI fun K1 k1 => ?_
    walk_at "rd"
    refine ⟨by decide, b, 38, rfl, kp2.bag, by decide, by decide, fun m H3 m0 m1 kp3 => ⟨_, rfl, by decide, k1 _ _ ?_⟩⟩
    clear k1
    have kpA := (kp1.trans kp2).trans kp3
    clear kp1 kp2 kp3
    have wsS : WS (cutS (typS ++ typS) (some at_) (some (at_ + 1 + m))) := (typS_ws.app typS_ws).cut
    have lS : 1 ≤ (cutS (typS ++ typS) (some at_) (some (at_ + 1 + m))).length ∧ (cutS (typS ++ typS) (some at_) (some (at_ + 1 + m))).length ≤ 76 := by
      have e : (typS ++ typS).length = 76 := by rw [len_app]; rfl
      rw [cutS_len, sIx_nat' a0, sIx_nat' (by omega), e]
      omega
    have eS : cutS (Str.ofString "etaonisrhldcumfpgwybvkxjqz0123456789'-" ++ Str.ofString "etaonisrhldcumfpgwybvkxjqz0123456789'-") (some at_) (some (at_ + 1 + m)) = cutS (typS ++ typS) (some at_) (some (at_ + 1 + m)) := rfl
    rw [eS]
    clear eS
    generalize cutS (typS ++ typS) (some at_) (some (at_ + 1 + m)) = sg at wsS lS
    refine seqI fun K1 k1 => ?_
    walk_at "rd"
    refine ⟨by decide, fun p1 n1 => ?_⟩
    have s1 := same_new (o := .lst [.int 4, .int 20]) n1
    have kpB := kpA.then s1
    refine ⟨b, 2, rfl, kpB.bag, by decide, by decide, fun w0 H4 w1 w2 kp4 => ?_⟩
    obtain ⟨y, y0, y1, ey⟩ : ∃ y : Int, 0 < y ∧ y ≤ 20 ∧ atI [V.int 4, V.int 20] w0 = some (.int y) := by
      rcases (by omega : w0 = 0 ∨ w0 = 1) with rfl | rfl
      · exact ⟨4, by decide, by decide, rfl⟩
      · exact ⟨20, by decide, by decide, rfl⟩
    refine ⟨w0, rfl, _, kp4.lst kpB.bag upd_same, _, ey, ?_⟩
    refine ⟨b, y, rfl, kp4.bag, y0, by omega, fun x H5 x0 x1 kp5 => ⟨x, rfl, k1 _ _ ?_⟩⟩
    clear k1
    have kp := (kpB.trans kp4).trans kp5
    have hp5 := kp.lst hB hp
    clear kpA kpB kp4 kp5 s1 n1 ey
    refine seqI fun K1 k1 => ?_
    refine ⟨⟨_, rfl⟩, .int (1 + x), rfl, 1 + x, rfl, by omega, by omega, fun D nD => ?_⟩
    refine lc_range (lo := 0) (n := (1 + x).toNat) (fun i H6 => ∃ cs : List Nat, cs.length = i ∧ (∀ c ∈ cs, c ∈ wordSigns.cps.toList) ∧ H6 D = some (.lst ((cs.map S1).map V.str)) ∧ Kp b H5 H6) ⟨[], rfl, fun c h => by (cases h), upd_same, Kp.put kp.bag (Kp.refl kp.bag) nD⟩ ?_ ?_
    · rintro i H6 hi ⟨cs, hcs, hall, hD, kp6⟩
      refine ⟨rfl, ?_⟩
      walk_at "rd"
      refine ⟨sz (by omega), b, _, rfl, kp6.bag, by omega, by omega, fun r H7 r0 r1 kp7 => ?_⟩
      obtain ⟨c, hc, hm⟩ := atI_mem (xs := sg.cps.toList) r0 (by rw [Array.length_toList]; exact r1)
      walk_at "rd"
      refine ⟨sz (by omega), c, hc, _, kp7.lst kp6.bag hD, ?_, cs ++ [c], ?_, ?_, ?_, Kp.put kp.bag (kp6.trans kp7) nD⟩
      · rw [List.length_map, List.length_map]
        exact Nat.lt_of_lt_of_le (by omega : _ < 100) (by decide)
      · rw [List.length_append]
        show cs.length + 1 = _
        omega
      · intro x hx
        rcases List.mem_append.mp hx with hx | hx
        · exact hall x hx
        · rw [List.mem_singleton.mp hx]
          exact wsS c hm
      · rw [List.map_append, List.map_append]
        rfl
    rintro H6 ⟨cs, hcs, hall, hD, kp6⟩
    have jl : (Txt.join "" (cs.map S1)).cps.toList = cs := by
      rw [join0_list, List.map_map]
      clear hcs hall hD
      induction cs with
      | nil => rfl
      | cons c l ih =>
        rw [List.map_cons, List.flatten_cons, ih]
        rfl
    have js : ((cs.map S1).map (·.length)).sum = cs.length := by
      rw [List.map_map]
      clear hcs hall hD jl
      induction cs with
      | nil => rfl
      | cons c l ih =>
        rw [List.map_cons, List.sum_cons, ih]
        show 1 + l.length = l.length + 1
        omega
    refine ⟨_, D, cs.map S1, rfl, rfl, hD, ?_, k1 _ _ ?_⟩
    · rw [js]
      have e2 : (("" : Str)).length = 0 := rfl
      rw [e2]
      omega
    clear k1
    have wsW : WS (Txt.join "" (cs.map S1)) := fun c hc => hall c (by rw [jl] at hc; exact hc)
    have lW : (Txt.join "" (cs.map S1)).length = cs.length := by
      show (Txt.join "" (cs.map S1)).cps.size = _
      rw [← Array.length_toList, jl]
    generalize Txt.join "" (cs.map S1) = wd at wsW lW
    have kp7 := kp.trans kp6
    have hp7 := kp7.lst hB hp
    have l1 : 1 ≤ wd.length ∧ wd.length ≤ 20 := by omega
    clear jl js hcs hall hD kp6 lW hp5 kp nD
    refine seqI fun K1 k1 => ?_
    walk_at "rd"
    refine ⟨b, 6, rfl, kp7.bag, by decide, by decide, fun way H8 v0 v1 kp8 => k1 _ _ ?_⟩
    clear k1
    replace kp7 := kp7.trans kp8
    have hp8 := kp7.lst hB hp
    clear kp8 hp7
    refine seqI fun K1 k1 => ?_
    have fin : ∀ (u : Str) (w5 w7 : Option V) (H9 : Hp), WS u → 1 ≤ u.length → u.length ≤ 1000 → Kp b H H9 → K1 [some (.ref b), some (.ref p), some (.str sg), some (.int at_), some (.int (1 + x)), some (.str u), some (.int way), w7, none] H9 := by
      intro u w5 w7 H9 hu u1 u2 kp9
      refine k1 _ _ ?_
      walk_at "rd"
      have cl : (cutS u none (some 20)).length = min 20 u.length := by
        rw [cutS_len, HT.sIx_none, sIx_nat' (by decide : (0 : Int) ≤ 20)]
        show min (min 20 u.length - 0) (u.length - 0) = _
        omega
      exact ⟨sz (by omega), q _ H9 (isW_of hu.cut (by omega) (by omega)) (by omega) kp9⟩
    clear k1
    refine ifI fun A B ka kb => ?_
    walk_at "rd"
    refine ite_i (fun h1 => ka _ ?_) (fun h1 => kb _ ?_)
    · clear ka kb
      walk_at "rd"
      refine ⟨b, 2, rfl, kp7.bag, by decide, by decide, fun e H9 e0 e1 kp9 => ⟨e, rfl, by decide, ?_⟩⟩
      obtain ⟨c, hc, hm⟩ := atI_mem (xs := (("et" : Str)).cps.toList) e0 (show e < 2 from e1)
      refine ⟨c, hc, by decide, fun p1 n1 => ?_⟩
      have s1 := same_new (o := .lst [.int 7, .int 8, .int 11, .int 12, .int 15, .int 16]) n1
      have kpC := (kp7.trans kp9).then s1
      refine ⟨b, 6, rfl, kpC.bag, by decide, by decide, fun g H10 g0 g1 kp10 => ?_⟩
      obtain ⟨y, y0, y1, ey⟩ : ∃ y : Int, 0 ≤ y ∧ y ≤ 16 ∧ atI [V.int 7, V.int 8, V.int 11, V.int 12, V.int 15, V.int 16] g = some (.int y) := by
        rcases (by omega : g = 0 ∨ g = 1 ∨ g = 2 ∨ g = 3 ∨ g = 4 ∨ g = 5) with rfl | rfl | rfl | rfl | rfl | rfl
        · exact ⟨7, by decide, by decide, rfl⟩
        · exact ⟨8, by decide, by decide, rfl⟩
        · exact ⟨11, by decide, by decide, rfl⟩
        · exact ⟨12, by decide, by decide, rfl⟩
        · exact ⟨15, by decide, by decide, rfl⟩
        · exact ⟨16, by decide, by decide, rfl⟩
      obtain ⟨ml, ma⟩ := mul_one c y y0
      have ml : (Txt.mul ({ cps := #[c] } : Str) y).length = y.toNat := ml
      have hcw : c ∈ wordSigns.cps.toList := by
        have key : ∀ c ∈ (("et" : Str)).cps.toList, c ∈ wordSigns.cps.toList := by decide +kernel
        exact key c hm
      refine ⟨g, rfl, _, kp10.lst kpC.bag upd_same, _, ey, y, rfl, y0, by omega, (show 1 * y.toNat ≤ 1000000 by omega), sz (by omega), fin _ none none H10 ?_ ?_ ?_ (kpC.trans kp10)⟩
      · exact WS.app (fun d hd => by rw [ma d hd]; exact hcw) wsW
      · rw [len_app]
        omega
      · rw [len_app]
        omega
    clear ka kb A B
    refine ifI fun A B ka kb => ?_
    have no : B H8 := by
      refine kb _ ?_
      walk_at "rd"
      exact fin wd none none H8 wsW l1.1 (by omega) kp7
    walk_at "rd"
    refine ite_i (fun h2 => ?_) (fun _ => no)
    refine ⟨_, .inl ⟨_, .inl (.inl hp8), rfl⟩, ite_i (fun h3 => ka _ ?_) (fun _ => no)⟩
    have hne : 0 < ws.length := by
      cases ws with
      | nil => exact absurd h3 (by decide)
      | cons a l => exact Nat.succ_pos _
    clear ka kb no
    refine seqI fun K2 k2 => ?_
    walk_at "rd"
    refine ⟨_, hp8, ?_⟩
    rw [List.length_map]
    refine ⟨b, _, rfl, kp7.bag, by omega, by omega, fun g H9 g0 g1 kp9 => ⟨g, rfl, _, kp9.lst kp7.bag hp8, ?_⟩⟩
    obtain ⟨v, hv, hm⟩ := atI_mem (xs := ws.map V.str) g0 (by rw [List.length_map]; exact g1)
    obtain ⟨z, hz, rfl⟩ := List.mem_map.mp hm
    obtain ⟨w1z, w2z⟩ := hw z hz
    refine ⟨_, hv, k2 _ _ ?_⟩
    clear k2
    have kpD := kp7.trans kp9
    refine ifI fun A B ka kb => ?_
    walk_at "rd"
    refine ite_i (fun h4 => kb _ ?_) (fun h4 => ka _ ?_)
    · walk_at "rd"
      exact fin wd none _ H9 wsW l1.1 (by omega) kpD
    clear ka kb
    obtain ⟨wz, lz⟩ := isW_ws w1z h4
    walk_at "rd"
    refine ⟨sz (by omega), b, _, rfl, kpD.bag, by omega, by omega, fun t H10 t0 t1 kp10 => ⟨t, rfl, sz (by omega), ?_⟩⟩
    have cl := cut_hi z (1 + t) (by omega)
    refine ⟨sz (by omega), fin _ none _ H10 (wz.cut.app wsW) ?_ ?_ (kpD.trans kp10)⟩
    · rw [len_app]
      omega
    · rw [len_app]
      omega
end
section
variable {P : Program} {w : World} {K : PySem.W.Frag} {mg : Str → Option Value} {base : Heap}
theorem ok__law_row (S : Src K mg "_law_row" s__law_row) (T : Tx P K mg) (C__law_pick : Cal P w K mg base CX0 1 "_law_pick" ["_law_bag_here", "_law_many"] spPick) (C__law_typed : Cal P w K mg base CX0 2 "_law_typed" ["_law_bag_here", "_law_pool"] spTyped)  : Cal P w K mg base CX0 3 "_law_row" ["_law_bag_here", "_law_pool"] spRow := by
  refine S.cal sc__law_row bn__law_row (fun vs H Q E h => ?_) (fun f cdv A outer s H vs Q E hr h => ?_)
  · first | (obtain ⟨rfl, _⟩ := h; rfl) | (obtain ⟨_, rfl, _⟩ := h; rfl) | (obtain ⟨_, _, rfl, _⟩ := h; rfl) | (obtain ⟨_, _, _, rfl, _⟩ := h; rfl) | (obtain ⟨_, _, _, _, rfl, _⟩ := h; rfl) | (obtain ⟨_, _, _, _, _, rfl, _⟩ := h; rfl) | (obtain ⟨_, _, _, _, _, _, rfl, _⟩ := h; rfl) | (obtain ⟨_, _, _, _, _, _, _, rfl, _⟩ := h; rfl) | (obtain ⟨_, _, _, _, _, _, _, _, rfl, _⟩ := h; rfl) | (obtain ⟨_, _, _, _, _, _, _, _, _, rfl, _⟩ := h; rfl)
  · skip
    refine ⟨_, (pss_cons (ps_set (i := 2) sc__law_row.nd rfl (Or.inl rfl) (pe_lst pa_nil))
        (pss_cons (ps_set (i := 3) sc__law_row.nd rfl (Or.inl rfl) (Fx.pe_cal C__law_pick (hr.mono (by decide)) pass0 (Fx.pa_c (pv 0) (Fx.pa_c pe_int pa_nil))))
        (pss_cons (ps_if (pt_cmpR op_eq (Fx.pe_cal C__law_pick (hr.mono (by decide)) pass0 (Fx.pa_c (pv 0) (Fx.pa_c pe_int pa_nil))) pe_int (nomark _)) (pss_one (ps_set (i := 3) sc__law_row.nd rfl (Or.inl rfl) (pe_op op_add pe_int (Fx.pe_cal C__law_pick (hr.mono (by decide)) pass0 (Fx.pa_c (pv 0) (Fx.pa_c pe_int pa_nil)))))) pss_nil)
        (pss_cons (ps_for PassesOwn.never rfl (pi_range1 rfl T.b_range (Fx.pa_c (pv 3) pa_nil)) (pg_name (i := 4) sc__law_row.nd rfl (Or.inl rfl)) (pss_one (ps_if (PW.pt (pw_and (pt_truth (pv 2) (by intro _; rfl)) (pw_and1 (pt_cmpR op_eq (Fx.pe_cal C__law_pick (hr.mono (by decide)) pass0 (Fx.pa_c (pv 0) (Fx.pa_c pe_int pa_nil))) pe_int (nomark _))))) (pss_one (ps_expr (pe_bm PySem.F.plainAttrs_list PySem.F.slot_list_append PySem.F.type_list_append mt_append (pv 2) (Fx.pa_c (pe_ix Fx.ix_L (pv 2) (Fx.pe_cal C__law_pick (hr.mono (by decide)) pass0 (Fx.pa_c (pv 0) (Fx.pa_c (Fx.pe_cB Fx.len_L T.b_len (by decide +kernel) (Fx.pa_c (pv 2) pa_nil)) pa_nil))) (fun _ _ => rfl)) pa_nil)))) (pss_one (ps_expr (pe_bm PySem.F.plainAttrs_list PySem.F.slot_list_append PySem.F.type_list_append mt_append (pv 2) (Fx.pa_c (Fx.pe_cal C__law_typed (hr.mono (by decide)) pass0 (Fx.pa_c (pv 0) (Fx.pa_c (pe_op op_cat (pv 1) (pv 2)) pa_nil))) pa_nil)))))))
        (pss_one (ps_ret (pv 2))))))), ?_⟩
    obtain ⟨b, p, l, rfl, hB, hp, hl, hw, q⟩ := h
    refine seqI fun K1 k1 => ?_
    walk_at "rd"
    refine ⟨by decide, fun pr nr => k1 _ _ ?_⟩
    clear k1
    have kp0 : Kp b H (upd H pr (.lst [])) := Kp.same hB (same_new nr)
    have h0 : (upd H pr (.lst [])) pr = some (.lst (ms [])) := upd_same
    generalize upd H pr (.lst []) = H0 at kp0 h0
    refine seqI fun K1 k1 => ?_
    walk_at "rd"
    refine ⟨b, 9, rfl, kp0.bag, by decide, by decide, fun m H2 m0 m1 kp2 => k1 _ _ ?_⟩
    clear k1
    have h2 := kp2.lst kp0.bag h0
    replace kp2 := kp0.trans kp2
    clear kp0 h0
    refine seqI fun K1 k1 => ?_
    have go : ∀ (mm : Int) (H3 : Hp), 0 ≤ mm → mm ≤ 40 → Kp b H H3 → H3 pr = some (.lst (ms [])) → K1 [some (.ref b), some (.ref p), some (.ref pr), some (.int mm), none] H3 := by
      intro mm H3 mm0 mm1 kp3 h3
      refine k1 _ _ ?_
      clear k1
      refine seqI fun K1 k1 => ?_
      refine ⟨_, rfl, mm, rfl, by omega, by omega, for_range (lo := 0) (n := mm.toNat) (fun i σ H' => ∃ (v4 : Option V) (ys : List Str), σ = [some (.ref b), some (.ref p), some (.ref pr), some (.int mm), v4] ∧ ys.length = i ∧ (∀ z ∈ ys, isW z = true ∧ z.length ≤ 20) ∧ H' pr = some (.lst (ms ys)) ∧ Kp b H H') ⟨none, [], rfl, rfl, fun z h => by (cases h), h3, kp3⟩ ?_ ?_⟩
      · rintro i σ H4 hi ⟨v4, ys, rfl, ly, hy, hr, kp4⟩
        clear k1
        have app : ∀ (z : Str) (H5 : Hp), isW z = true → z.length ≤ 20 → Kp b H H5 → H5 pr = some (.lst (ms ys)) → (ms ys).length < sizeLine ∧ ∃ ys' : List Str, ys'.length = i + 1 ∧ (∀ z ∈ ys', isW z = true ∧ z.length ≤ 20) ∧ ms ys ++ [V.str z] = ms ys' ∧ Kp b H (upd H5 pr (.lst (ms ys ++ [V.str z]))) := by
          intro z H5 hz1 hz2 kp5 hr5
          refine ⟨?_, ys ++ [z], ?_, ?_, ?_, Kp.put hB kp5 nr⟩
          · rw [List.length_map]
            exact Nat.lt_of_lt_of_le (by omega : _ < 100) (by decide)
          · rw [List.length_append, ly]
            rfl
          · intro a ha
            rcases List.mem_append.mp ha with ha | ha
            · exact hy a ha
            · rw [List.mem_singleton.mp ha]
              exact ⟨hz1, hz2⟩
          · rw [ms, ms, List.map_append]
            rfl
        show tIfS _ _ _ _ _ _
        refine ifI fun A B ka kb => ?_
        have no : ∀ H5, Kp b H4 H5 → B H5 := by
          intro H5 kp5
          refine kb _ ?_
          have hr5 := kp5.lst kp4.bag hr
          have kpA := kp4.trans kp5
          walk_at "rd"
          refine ⟨tyL hr5, _, kpA.lst hB hp, _, hr5, ?_, fun pn nn => ?_⟩
          · rw [List.length_map, List.length_map]
            exact sz (by omega)
          have kpN := kpA.then (same_new (o := .lst (ms l ++ ms ys)) nn)
          refine ⟨b, pn, l ++ ys, rfl, kpN.bag, by rw [upd_same, ms, ms, List.map_append], by rw [List.length_append]; omega, fun z hz => ?_, fun z H6 z1 z2 kp6 => ?_⟩
          · rcases List.mem_append.mp hz with hz | hz
            · exact hw z hz
            · exact hy z hz
          have hr6 := kp6.lst kpN.bag (same_new nn _ _ hr5)
          exact ⟨_, hr6, app z H6 z1 z2 (kpN.trans kp6) hr6⟩
        walk_at "rd"
        refine ⟨_, .inl ⟨_, .inl (.inl hr), rfl⟩, ite_i (fun h3 => ?_) (fun _ => no _ (Kp.refl kp4.bag))⟩
        have hne : 0 < ys.length := by
          cases ys with
          | nil => exact absurd h3 (by decide)
          | cons a l => exact Nat.succ_pos _
        refine ⟨b, 6, rfl, kp4.bag, by decide, by decide, fun g H5 g0 g1 kp5 => ⟨rfl, ite_i (fun e => ka _ ?_) (fun e => no _ kp5)⟩⟩
        have hr5 := kp5.lst kp4.bag hr
        walk_at "rd"
        refine ⟨tyL hr5, _, hr5, ?_⟩
        rw [List.length_map]
        refine ⟨b, _, rfl, kp5.bag, by omega, by omega, fun t H6 t0 t1 kp6 => ?_⟩
        have hr6 := kp6.lst kp5.bag hr5
        obtain ⟨v, hv, hm⟩ := atI_mem (xs := ms ys) t0 (by rw [List.length_map]; exact t1)
        obtain ⟨z, hz, rfl⟩ := List.mem_map.mp hm
        exact ⟨t, rfl, _, hr6, _, hv, _, hr6, app z H6 (hy z hz).1 (hy z hz).2 ((kp4.trans kp5).trans kp6) hr6⟩
      rintro σ H4 ⟨v4, ys, rfl, ly, hy, hr, kp4⟩
      refine k1 _ _ ?_
      walk_at "rd"
      exact q pr ys H4 kp4 nr hr (by omega) hy
    clear k1
    refine ifI fun A B ka kb => ?_
    walk_at "rd"
    refine ⟨b, 8, rfl, kp2.bag, by decide, by decide, fun g H3 g0 g1 kp3 => ⟨rfl, ite_i (fun e => ka _ ?_) (fun e => kb _ ?_)⟩⟩
    · walk_at "rd"
      refine ⟨b, 17, rfl, kp3.bag, by decide, by decide, fun g2 H4 g3 g4 kp4 => ⟨g2, rfl, go _ _ (by omega) (by omega) ((kp2.trans kp3).trans kp4) (kp4.lst kp3.bag (kp3.lst kp2.bag h2))⟩⟩
    · walk_at "rd"
      exact go _ _ m0 (by omega) (kp2.trans kp3) (kp3.lst kp2.bag h2)
end
section
variable {P : Program} {w : World} {K : PySem.W.Frag} {mg : Str → Option Value} {base : Heap}
theorem ok__law_odd (S : Src K mg "_law_odd" s__law_odd) (T : Tx P K mg) (C__law_pick : Cal P w K mg base CX0 1 "_law_pick" ["_law_bag_here", "_law_many"] spPick)  : Cal P w K mg base CX0 2 "_law_odd" ["_law_bag_here"] (spOdd K) := by
  refine S.cal sc__law_odd bn__law_odd (fun vs H Q E h => ?_) (fun f cdv A outer s H vs Q E hr h => ?_)
  · first | (obtain ⟨rfl, _⟩ := h; rfl) | (obtain ⟨_, rfl, _⟩ := h; rfl) | (obtain ⟨_, _, rfl, _⟩ := h; rfl) | (obtain ⟨_, _, _, rfl, _⟩ := h; rfl) | (obtain ⟨_, _, _, _, rfl, _⟩ := h; rfl) | (obtain ⟨_, _, _, _, _, rfl, _⟩ := h; rfl) | (obtain ⟨_, _, _, _, _, _, rfl, _⟩ := h; rfl) | (obtain ⟨_, _, _, _, _, _, _, rfl, _⟩ := h; rfl) | (obtain ⟨_, _, _, _, _, _, _, _, rfl, _⟩ := h; rfl) | (obtain ⟨_, _, _, _, _, _, _, _, _, rfl, _⟩ := h; rfl)
  · skip
    refine ⟨_, (pss_cons (ps_set (i := 1) sc__law_odd.nd rfl (Or.inl rfl) (pe_lst (Fx.pa_c pe_str (Fx.pa_c (pe_op Fx.op_mul_str pe_str pe_int) (Fx.pa_c pe_str (Fx.pa_c pe_str (Fx.pa_c pe_str (Fx.pa_c pe_str (Fx.pa_c pe_str (Fx.pa_c pe_str (Fx.pa_c pe_str (Fx.pa_c pe_str (Fx.pa_c pe_str (Fx.pa_c pe_str (Fx.pa_c pe_int (Fx.pa_c pe_non (Fx.pa_c pe_bl (Fx.pa_c (pe_lst (Fx.pa_c pe_str pa_nil)) (Fx.pa_c (pe_tup (Fx.pa_c pe_str (Fx.pa_c pe_str pa_nil))) pa_nil)))))))))))))))))))
        (pss_one (ps_ret (pe_ix Fx.ix_L (pv 1) (Fx.pe_cal C__law_pick (hr.mono (by decide)) pass0 (Fx.pa_c (pv 0) (Fx.pa_c pe_int pa_nil))) (fun _ _ => rfl))))), ?_⟩
    obtain ⟨b, rfl, hB, q⟩ := h
    refine seqI fun K1 k1 => ?_
    walk_at "rd"
    refine ⟨by decide, by decide, by decide, by decide, fun p2 n2 => ⟨by decide, fun p3 n3 => ⟨by decide, fun p4 n4 => k1 _ _ ?_⟩⟩⟩
    clear k1
    have s2 := same_new (o := .lst [.str "a"]) n2
    have s3 := same_new (o := .tup [.str "a", .str "b"]) n3
    have s4 := same_new (o := .lst (oddS.map V.str ++ [V.int 5, V.non, V.bl true, V.ref p2, V.ref p3])) n4
    have g2 := s4 _ _ (s3 _ _ (upd_same (H := H) (a := p2) (o := .lst [.str "a"])))
    have g3 := s4 _ _ (upd_same (H := upd H p2 (.lst [.str "a"])) (a := p3) (o := .tup [.str "a", .str "b"]))
    have g4 := upd_same (H := upd (upd H p2 (.lst [.str "a"])) p3 (.tup [.str "a", .str "b"])) (a := p4) (o := .lst (oddS.map V.str ++ [V.int 5, V.non, V.bl true, V.ref p2, V.ref p3]))
    have kp := Kp.same hB ((s2.trans s3).trans s4)
    show tRet _ _ _ (upd (upd (upd H p2 (.lst [.str "a"])) p3 (.tup [.str "a", .str "b"])) p4 (.lst (oddS.map V.str ++ [V.int 5, V.non, V.bl true, V.ref p2, V.ref p3])))
    generalize upd (upd (upd H p2 (.lst [.str "a"])) p3 (.tup [.str "a", .str "b"])) p4 (.lst (oddS.map V.str ++ [V.int 5, V.non, V.bl true, V.ref p2, V.ref p3])) = H4 at g2 g3 g4 kp
    walk_at "rd"
    refine ⟨b, 17, rfl, kp.bag, by decide, by decide, fun g H5 g0 g1 kp5 => ⟨g, rfl, _, kp5.lst kp.bag g4, ?_⟩⟩
    obtain ⟨v, hv, hm⟩ := atI_mem (xs := oddS.map V.str ++ [V.int 5, V.non, V.bl true, V.ref p2, V.ref p3]) g0 (show g < 17 from g1)
    have f2 : H5 p2 = some (.lst [.str "a"]) := kp5.lst kp.bag g2
    have f3 : H5 p3 = some (.tup [.str "a", .str "b"]) := kp5.tup kp.bag g3
    refine ⟨v, hv, ?_⟩
    have K5 := kp.trans kp5
    rcases List.mem_append.mp hm with hm | hm
    · obtain ⟨z, hz, rfl⟩ := List.mem_map.mp hm
      have := List.all_eq_true.mp oddS_ok z hz
      simp only [Bool.and_eq_true, decide_eq_true_eq, Bool.not_eq_true'] at this
      exact q _ (.str z) H5 K5 (.inl ⟨z, rfl, this.1.1.2, this.1.1.1⟩) (shw_str (Nat.le_trans this.1.2 (by decide)) this.2) ⟨by simp [PyData.showable], by simp [PyData.hasDict], by simp [PyData.depth], by simp only [PyData.shown]; exact this.1.2, by simp only [PyData.shown]; exact this.2⟩
    · simp only [List.mem_cons, List.not_mem_nil, or_false] at hm
      rcases hm with rfl | rfl | rfl | rfl | rfl
      · exact q _ (.int 5) H5 K5 (.inr ⟨_, tyv_int, kb_int_str⟩) ⟨.int 5, by decide, rfl, by decide, by decide +kernel, by decide +kernel⟩ ⟨by decide, by decide, by decide, by decide +kernel, by decide +kernel⟩
      · exact q _ .none H5 K5 (.inr ⟨_, tyv_non, kb_none_str⟩) ⟨.non, by decide, rfl, by decide, by decide +kernel, by decide +kernel⟩ ⟨by decide, by decide, by decide, by decide +kernel, by decide +kernel⟩
      · exact q _ (.bool true) H5 K5 (.inr ⟨_, tyv_bl, kb_bool_str⟩) ⟨.bl true, by decide, rfl, by decide, by decide +kernel, by decide +kernel⟩ ⟨by decide, by decide, by decide, by decide +kernel, by decide +kernel⟩
      · exact q _ (.list [.str "a"]) H5 K5 (.inr ⟨_, tyv_lst f2, kb_list_str⟩) ⟨.lst (.inl (.inl f2)) (.cons (.str _) .nil), by decide, rfl, by decide, by decide +kernel, by decide +kernel⟩ ⟨by decide, by decide, by decide, by decide +kernel, by decide +kernel⟩
      · exact q _ (.tuple [.str "a", .str "b"]) H5 K5 (.inr ⟨_, tyv_tup f3, kb_tuple_str⟩) ⟨.tup (.inl (.inl f3)) (.cons (.str _) (.cons (.str _) .nil)), by decide, rfl, by decide, by decide +kernel, by decide +kernel⟩ ⟨by decide, by decide, by decide, by decide +kernel, by decide +kernel⟩
end
section
variable {P : Program} {w : World} {K : PySem.W.Frag} {mg : Str → Option Value} {base : Heap}
theorem ok__law_lexicon_made (S : Src K mg "_law_lexicon_made" s__law_lexicon_made) (T : Tx P K mg) (C_Lexicon_MU_initU : CalID P w K mg base (L2.CX P w) 6 (He.ga K "Lexicon") ["self", "version", "words"] (.ref (He.dflAt ("Lexicon", some "__init__") 0 K)) (spLex K)) (C_Lexicon_MU_lenU : CalM P w K mg base CX0 1 (He.ga K "Lexicon") "__len__" ["self"] (spLLen K))  : CalG P w K mg base CX0 8 "_law_lexicon_made" ["_law_number", "_law_words"] (spMade K) := by
  refine S.calG sc__law_lexicon_made bn__law_lexicon_made (fun vs H Q E h => ?_) (fun f cdv A outer s H vs Q E hG hr h => ?_)
  · first | (obtain ⟨rfl, _⟩ := h; rfl) | (obtain ⟨_, rfl, _⟩ := h; rfl) | (obtain ⟨_, _, rfl, _⟩ := h; rfl) | (obtain ⟨_, _, _, rfl, _⟩ := h; rfl) | (obtain ⟨_, _, _, _, rfl, _⟩ := h; rfl) | (obtain ⟨_, _, _, _, _, rfl, _⟩ := h; rfl) | (obtain ⟨_, _, _, _, _, _, rfl, _⟩ := h; rfl) | (obtain ⟨_, _, _, _, _, _, _, rfl, _⟩ := h; rfl) | (obtain ⟨_, _, _, _, _, _, _, _, rfl, _⟩ := h; rfl) | (obtain ⟨_, _, _, _, _, _, _, _, _, rfl, _⟩ := h; rfl)
  · skip
    obtain ⟨f_Lexicon_MU_lenU, fd_Lexicon_MU_lenU, m_Lexicon_MU_lenU, b_Lexicon_MU_lenU, G_Lexicon_MU_lenU⟩ := C_Lexicon_MU_lenU.ex
    refine ⟨_, (pss_cons (ps_try_as (i := 3) rfl rfl sc__law_lexicon_made.nd rfl rfl ⟨rfl, by decide, Or.inl T.g_FableError⟩ takes0 (fun W pn xe tk _ => (pss_one (ps_set (i := 2) sc__law_lexicon_made.nd rfl (Or.inl rfl) (Fx.pe_mkT C_Lexicon_MU_initU.full (hr.mono (by decide)) T.g_Lexicon tk (Fx.pa_c (pv 0) (Fx.pa_c (pv 1) pa_nil)))))) (fun a oe cls d pn hz hf => (pss_cons (ps_if (PW.pt (pw_or (pt_not (pt_val (Fx.pe_cB (call_isY hz hf) T.b_isinstance (by decide +kernel) (Fx.pa_c (pv 3) (Fx.pa_c (pe_bltn (v := .ty "ValueError") (by rfl) T.b_ValueError (by decide +kernel) rfl) pa_nil))))) (pw_or1 (pt_val (Fx.pe_cB (call_isY hz hf) T.b_isinstance (by decide +kernel) (Fx.pa_c (pv 3) (Fx.pa_c (pe_glob (v := .ref (He.ga K "BadText")) rfl T.g_BadText rfl) pa_nil))))))) (pss_one (ps_ret (pe_lst (Fx.pa_c pe_str pa_nil)))) pss_nil)
        (pss_cons (ps_if (PW.pt (pw_and (pt_val (Fx.pe_cB (call_isY hz hf) T.b_isinstance (by decide +kernel) (Fx.pa_c (pv 3) (Fx.pa_c (pe_glob (v := .ref (He.ga K "BadVersion")) rfl T.g_BadVersion rfl) pa_nil)))) (pw_and1 (pt_not (pt_val (Fx.pe_cB (call_isY hz hf) T.b_isinstance (by decide +kernel) (Fx.pa_c (pv 3) (Fx.pa_c (pe_glob (v := .ref (He.ga K "BadWord")) rfl T.g_BadWord rfl) pa_nil)))))))) (pss_one (ps_ret (pe_lst (Fx.pa_c pe_str (Fx.pa_c (Fx.pe_cB (Fx.call_reprK (K := K) rfl hG hr.units) T.b_repr (by decide +kernel) (Fx.pa_c (pe_xf (XC.xfc T.x_BadVersion) T.x_BadVersion.noF hz hf (pv 3)) pa_nil)) pa_nil))))) pss_nil)
        (pss_cons (ps_if (PW.pt (pw_and (pt_val (Fx.pe_cB (call_isY hz hf) T.b_isinstance (by decide +kernel) (Fx.pa_c (pv 3) (Fx.pa_c (pe_glob (v := .ref (He.ga K "BadWord")) rfl T.g_BadWord rfl) pa_nil)))) (pw_and1 (pt_not (pt_val (Fx.pe_cB (call_isY hz hf) T.b_isinstance (by decide +kernel) (Fx.pa_c (pv 3) (Fx.pa_c (pe_glob (v := .ref (He.ga K "BadVersion")) rfl T.g_BadVersion rfl) pa_nil)))))))) (pss_one (ps_ret (pe_lst (Fx.pa_c pe_str (Fx.pa_c (Fx.pe_cB (Fx.call_reprK (K := K) rfl hG hr.units) T.b_repr (by decide +kernel) (Fx.pa_c (pe_xf (XC.xfc T.x_BadWord) T.x_BadWord.noF hz hf (pv 3)) pa_nil)) pa_nil))))) pss_nil)
        (pss_one (ps_ret (pe_lst (Fx.pa_c pe_str pa_nil)))))))))
        (pss_one (ps_ret (pe_lst (Fx.pa_c pe_str (Fx.pa_c (Fx.pe_cTy call_str_int T.b_str (by decide +kernel) (Fx.pa_c (Fx.pe_cB (Fx.len_O C_Lexicon_MU_lenU (hr.mono (by decide)) pass0) T.b_len (by decide +kernel) (Fx.pa_c (pv 2) pa_nil)) pa_nil)) pa_nil)))))), ?_⟩
    obtain ⟨v, pw, l, rfl, hS, hl, h⟩ := h
    refine seqI fun K1 k1 => ?_
    refine ⟨v, rfl, .ref pw, rfl, fun x dx nx ndx _ => ?_⟩
    have sx : Same H (upd (upd H dx (.own x)) x (.ins (He.ga K "Lexicon") dx [])) := fun b o e => by
      rw [upd_ne (ne_of_none e nx), upd_ne (ne_of_none e ndx)]
      exact e
    have hS2 : SqA K (upd (upd H dx (.own x)) x (.ins (He.ga K "Lexicon") dx [])) pw l := hS.same sx
    refine ⟨x, dx, v, pw, l, rfl, upd_same, hS2, hl, ?_⟩
    rcases h with ⟨d, hb, hd, q⟩ | ⟨n, w, d, hg, hw, hd, q⟩
    · refine .inl ⟨hb.same sx, fun dd H' kx nd ed => ?_⟩
      have sH : Same H H' := fun b o e => kx b o (ne_of_none e nx) (sx b o e)
      clear k1
      refine ⟨true, T.m_BadVersion, fun _ a0 na => ?_, fun z => Bool.noConfusion z⟩
      have efs : ∃ fs, H' dd = some (.xd fs) := ⟨_, ed⟩
      walk_at "rd"
      simp only [rIsY, tXf, rRepr]
      walk_at "rd"
      simp only [Value.ref.injEq, exists_eq_left', clsVal, Option.some.injEq, T.e_BadVersion, T.k_BadVersion_VE, T.k_BadVersion_BadText, T.k_BadVersion_BadVersion, T.k_BadVersion_BadWord, true_and, Bool.not_true, Bool.false_eq_true, if_false, ed, HO.xd.injEq, exists_eq_left, exists_eq', List.lookup, beq_self_eq_true]
      have h2 := hd.same sH
      refine ite_i (fun _ => ite_i (fun _ => ⟨d, h2.dp, h2.sh, h2.nd, h2.dep, h2.len, by decide, fun p np => q p _ (sH.trans (same_new np)) upd_same⟩) (fun h => absurd rfl h)) (fun h => absurd trivial h)
    · refine .inr (.inl ⟨n, w, hg, hw.same sx, fun dd H' kx nd ed => ?_⟩)
      have sH : Same H H' := fun b o e => kx b o (ne_of_none e nx) (sx b o e)
      clear k1
      refine ⟨true, T.m_BadWord, fun _ a0 na => ?_, fun z => Bool.noConfusion z⟩
      have efs : ∃ fs, H' dd = some (.xd fs) := ⟨_, ed⟩
      walk_at "rd"
      simp only [rIsY, tXf, rRepr]
      walk_at "rd"
      simp only [Value.ref.injEq, exists_eq_left', clsVal, Option.some.injEq, T.e_BadWord, T.k_BadWord_VE, T.k_BadWord_BadText, T.k_BadWord_BadVersion, T.k_BadWord_BadWord, true_and, Bool.not_true, Bool.false_eq_true, if_false, ed, HO.xd.injEq, exists_eq_left, exists_eq', List.lookup, beq_self_eq_true]
      have h2 := hd.same sH
      exact ite_i (fun _ => ite_i (fun _ => ⟨d, h2.dp, h2.sh, h2.nd, h2.dep, h2.len, by decide, fun p np => q p _ (sH.trans (same_new np)) upd_same⟩) (fun h => absurd rfl h)) (fun h => absurd trivial h)
end
section
variable {P : Program} {w : World} {K : PySem.W.Frag} {mg : Str → Option Value} {base : Heap}
theorem ok__law_refusals (S : Src K mg "_law_refusals" s__law_refusals) (T : Tx P K mg) (C__law_odd : Cal P w K mg base CX0 2 "_law_odd" ["_law_bag_here"] (spOdd K)) (C__law_pick : Cal P w K mg base CX0 1 "_law_pick" ["_law_bag_here", "_law_many"] spPick) (C__law_lexicon_made : CalG P w K mg base CX0 8 "_law_lexicon_made" ["_law_number", "_law_words"] (spMade K))  : CalG P w K mg base CX0 9 "_law_refusals" ["_law_bag_here", "_law_number", "_law_row_here"] (spRef K) := by
  refine S.calG sc__law_refusals bn__law_refusals (fun vs H Q E h => ?_) (fun f cdv A outer s H vs Q E hG hr h => ?_)
  · first | (obtain ⟨rfl, _⟩ := h; rfl) | (obtain ⟨_, rfl, _⟩ := h; rfl) | (obtain ⟨_, _, rfl, _⟩ := h; rfl) | (obtain ⟨_, _, _, rfl, _⟩ := h; rfl) | (obtain ⟨_, _, _, _, rfl, _⟩ := h; rfl) | (obtain ⟨_, _, _, _, _, rfl, _⟩ := h; rfl) | (obtain ⟨_, _, _, _, _, _, rfl, _⟩ := h; rfl) | (obtain ⟨_, _, _, _, _, _, _, rfl, _⟩ := h; rfl) | (obtain ⟨_, _, _, _, _, _, _, _, rfl, _⟩ := h; rfl) | (obtain ⟨_, _, _, _, _, _, _, _, _, rfl, _⟩ := h; rfl)
  · skip
    refine ⟨_, (pss_cons (ps_set (i := 3) sc__law_refusals.nd rfl (Or.inl rfl) (Fx.pe_cal C__law_odd (hr.mono (by decide)) pass0 (Fx.pa_c (pv 0) pa_nil)))
        (pss_cons (ps_set (i := 4) sc__law_refusals.nd rfl (Or.inl rfl) (Fx.pe_cal C__law_pick (hr.mono (by decide)) pass0 (Fx.pa_c (pv 0) (Fx.pa_c (pe_op op_add (Fx.pe_cB Fx.len_L T.b_len (by decide +kernel) (Fx.pa_c (pv 2) pa_nil)) pe_int) pa_nil))))
        (pss_cons (ps_set (i := 5) sc__law_refusals.nd rfl (Or.inl rfl) (pe_op op_cat (pe_op op_cat (pe_op op_cat (pe_slice Fx.sl_L (pv 2) po_none (po_some (pv 4))) (pe_lst (Fx.pa_c (pv 3) pa_nil))) (pe_slice Fx.sl_L (pv 2) (po_some (pv 4)) po_none)) (pe_lst (Fx.pa_c (Fx.pe_cal C__law_odd (hr.mono (by decide)) pass0 (Fx.pa_c (pv 0) pa_nil)) pa_nil))))
        (pss_cons (ps_set (i := 6) sc__law_refusals.nd rfl (Or.inl rfl) (pe_ix Fx.ix_L (pe_lst (Fx.pa_c pe_int (Fx.pa_c pe_int (Fx.pa_c (pe_un un_neg pe_int) (Fx.pa_c pe_bl (Fx.pa_c pe_bl (Fx.pa_c pe_non (Fx.pa_c pe_str (Fx.pa_c (pe_tup (Fx.pa_c pe_int pa_nil)) (Fx.pa_c (pe_lst (Fx.pa_c pe_int pa_nil)) (Fx.pa_c (pe_op op_pow pe_int pe_int) pa_nil))))))))))) (Fx.pe_cal C__law_pick (hr.mono (by decide)) pass0 (Fx.pa_c (pv 0) (Fx.pa_c pe_int pa_nil))) (fun _ _ => rfl)))
        (pss_cons (ps_set (i := 7) sc__law_refusals.nd rfl (Or.inl rfl) (Fx.pe_cB (Fx.call_reprK (K := K) rfl hG hr.units) T.b_repr (by decide +kernel) (Fx.pa_c (pv 5) pa_nil)))
        (pss_cons (ps_for PassesOwn.never rfl (pi_list (pe_lst (Fx.pa_c (pv 5) (Fx.pa_c (Fx.pe_cTy Fx.tup_L T.b_tuple (by decide +kernel) (Fx.pa_c (pv 5) pa_nil)) pa_nil)))) (pg_name (i := 8) sc__law_refusals.nd rfl (Or.inl rfl)) (pss_cons (ps_if (pt_cmpR (Fx.ne_LL hr.units) (Fx.pe_calG C__law_lexicon_made hG (hr.mono (by decide)) pass0 (Fx.pa_c (pv 1) (Fx.pa_c (pv 8) pa_nil))) (pe_lst (Fx.pa_c pe_str (Fx.pa_c (Fx.pe_cB (Fx.call_reprK (K := K) rfl hG hr.units) T.b_repr (by decide +kernel) (Fx.pa_c (pv 3) pa_nil)) pa_nil))) (nomark _)) (pss_one (ps_ret pe_bl)) pss_nil)
        (pss_one (ps_if (pt_cmpR (Fx.ne_LL hr.units) (Fx.pe_calG C__law_lexicon_made hG (hr.mono (by decide)) pass0 (Fx.pa_c (pv 6) (Fx.pa_c (pv 8) pa_nil))) (pe_lst (Fx.pa_c pe_str (Fx.pa_c (Fx.pe_cB (Fx.call_reprK (K := K) rfl hG hr.units) T.b_repr (by decide +kernel) (Fx.pa_c (pv 6) pa_nil)) pa_nil))) (nomark _)) (pss_one (ps_ret pe_bl)) pss_nil))))
        (pss_one (ps_ret (pe_and (pe_cmpR op_eq (Fx.pe_cB (Fx.call_reprK (K := K) rfl hG hr.units) T.b_repr (by decide +kernel) (Fx.pa_c (pv 5) pa_nil)) (pv 7) (nomark _)) (pe_one (pe_cmpR (Fx.eq_LL hr.units) (Fx.pe_calG C__law_lexicon_made hG (hr.mono (by decide)) pass0 (Fx.pa_c (pv 6) (Fx.pa_c (pe_lst pa_nil) pa_nil))) (pe_lst (Fx.pa_c pe_str (Fx.pa_c (Fx.pe_cB (Fx.call_reprK (K := K) rfl hG hr.units) T.b_repr (by decide +kernel) (Fx.pa_c (pv 6) pa_nil)) pa_nil))) (nomark _)))))))))))), ?_⟩
    obtain ⟨b, n, p, l, rfl, hB, n1, n3, hp, ll, hw, q⟩ := h
    refine seqI fun K1 k1 => ?_
    walk_at "rd"
    refine ⟨b, rfl, hB, fun v d H1 kp1 bw1 sh1 sm1 => k1 _ _ ?_⟩
    clear k1
    have hp1 := kp1.lst hB hp
    refine seqI fun K1 k1 => ?_
    walk_at "rd"
    refine ⟨_, hp1, ?_⟩
    rw [List.length_map]
    refine ⟨b, _, rfl, kp1.bag, by omega, by omega, fun i H2 i0 i1 kp2 => k1 _ _ ?_⟩
    clear k1
    have hp2 := kp2.lst kp1.bag hp1
    replace bw1 := bw1.kp kp1.bag kp2
    replace sh1 := sh1.kp kp1.bag kp2
    have kpA := kp1.trans kp2
    have B2 := kp2.bag
    clear kp1 kp2 hp1
    obtain ⟨j, rfl⟩ : ∃ j : Nat, i = (j : Int) := ⟨i.toNat, by omega⟩
    refine seqI fun K1 k1 => ?_
    walk_at "rd"
    refine ⟨_, hp2, ?_⟩
    intro q1 m1
    generalize e_q1 : upd H2 q1 _ = H3
    have s3 := new_s m1 e_q1
    have h3 := new_h e_q1
    clear e_q1
    try (first | replace hp2 := s3 _ _ hp2 | replace hp2 := hp2.same s3 | replace hp2 := hp2.then s3 | replace hp2 := hp2.trans s3)
    try (first | replace bw1 := s3 _ _ bw1 | replace bw1 := bw1.same s3 | replace bw1 := bw1.then s3 | replace bw1 := bw1.trans s3)
    try (first | replace sh1 := s3 _ _ sh1 | replace sh1 := sh1.same s3 | replace sh1 := sh1.then s3 | replace sh1 := sh1.trans s3)
    try (first | replace B2 := s3 _ _ B2 | replace B2 := B2.same s3 | replace B2 := B2.then s3 | replace B2 := B2.trans s3)
    try (first | replace kpA := s3 _ _ kpA | replace kpA := kpA.same s3 | replace kpA := kpA.then s3 | replace kpA := kpA.trans s3)
    refine ⟨by decide, ?_⟩
    intro q2 m2
    generalize e_q2 : upd H3 q2 _ = H4
    have s4 := new_s m2 e_q2
    have h4 := new_h e_q2
    clear e_q2
    try (first | replace hp2 := s4 _ _ hp2 | replace hp2 := hp2.same s4 | replace hp2 := hp2.then s4 | replace hp2 := hp2.trans s4)
    try (first | replace bw1 := s4 _ _ bw1 | replace bw1 := bw1.same s4 | replace bw1 := bw1.then s4 | replace bw1 := bw1.trans s4)
    try (first | replace sh1 := s4 _ _ sh1 | replace sh1 := sh1.same s4 | replace sh1 := sh1.then s4 | replace sh1 := sh1.trans s4)
    try (first | replace B2 := s4 _ _ B2 | replace B2 := B2.same s4 | replace B2 := B2.then s4 | replace B2 := B2.trans s4)
    try (first | replace kpA := s4 _ _ kpA | replace kpA := kpA.same s4 | replace kpA := kpA.then s4 | replace kpA := kpA.trans s4)
    try (first | replace h3 := s4 _ _ h3 | replace h3 := h3.same s4 | replace h3 := h3.then s4 | replace h3 := h3.trans s4)
    refine ⟨_, h3, ?_, ?_⟩
    · rw [cutV_hi, List.length_take, List.length_map]
      exact sz (by omega)
    intro q3 m3
    generalize e_q3 : upd H4 q3 _ = H5
    have s5 := new_s m3 e_q3
    have h5 := new_h e_q3
    clear e_q3
    try (first | replace hp2 := s5 _ _ hp2 | replace hp2 := hp2.same s5 | replace hp2 := hp2.then s5 | replace hp2 := hp2.trans s5)
    try (first | replace bw1 := s5 _ _ bw1 | replace bw1 := bw1.same s5 | replace bw1 := bw1.then s5 | replace bw1 := bw1.trans s5)
    try (first | replace sh1 := s5 _ _ sh1 | replace sh1 := sh1.same s5 | replace sh1 := sh1.then s5 | replace sh1 := sh1.trans s5)
    try (first | replace B2 := s5 _ _ B2 | replace B2 := B2.same s5 | replace B2 := B2.then s5 | replace B2 := B2.trans s5)
    try (first | replace kpA := s5 _ _ kpA | replace kpA := kpA.same s5 | replace kpA := kpA.then s5 | replace kpA := kpA.trans s5)
    try (first | replace h3 := s5 _ _ h3 | replace h3 := h3.same s5 | replace h3 := h3.then s5 | replace h3 := h3.trans s5)
    try (first | replace h4 := s5 _ _ h4 | replace h4 := h4.same s5 | replace h4 := h4.then s5 | replace h4 := h4.trans s5)
    refine ⟨_, hp2, ?_⟩
    intro q4 m4
    generalize e_q4 : upd H5 q4 _ = H6
    have s6 := new_s m4 e_q4
    have h6 := new_h e_q4
    clear e_q4
    try (first | replace hp2 := s6 _ _ hp2 | replace hp2 := hp2.same s6 | replace hp2 := hp2.then s6 | replace hp2 := hp2.trans s6)
    try (first | replace bw1 := s6 _ _ bw1 | replace bw1 := bw1.same s6 | replace bw1 := bw1.then s6 | replace bw1 := bw1.trans s6)
    try (first | replace sh1 := s6 _ _ sh1 | replace sh1 := sh1.same s6 | replace sh1 := sh1.then s6 | replace sh1 := sh1.trans s6)
    try (first | replace B2 := s6 _ _ B2 | replace B2 := B2.same s6 | replace B2 := B2.then s6 | replace B2 := B2.trans s6)
    try (first | replace kpA := s6 _ _ kpA | replace kpA := kpA.same s6 | replace kpA := kpA.then s6 | replace kpA := kpA.trans s6)
    try (first | replace h3 := s6 _ _ h3 | replace h3 := h3.same s6 | replace h3 := h3.then s6 | replace h3 := h3.trans s6)
    try (first | replace h4 := s6 _ _ h4 | replace h4 := h4.same s6 | replace h4 := h4.then s6 | replace h4 := h4.trans s6)
    try (first | replace h5 := s6 _ _ h5 | replace h5 := h5.same s6 | replace h5 := h5.then s6 | replace h5 := h5.trans s6)
    refine ⟨_, h5, ?_, ?_⟩
    · rw [cutV_hi, cutV_lo, List.length_append, List.length_drop, List.length_take, List.length_map]
      show _ + 1 + _ ≤ _
      exact sz (by omega)
    intro q5 m5
    generalize e_q5 : upd H6 q5 _ = H7
    have s7 := new_s m5 e_q5
    have h7 := new_h e_q5
    clear e_q5
    try (first | replace hp2 := s7 _ _ hp2 | replace hp2 := hp2.same s7 | replace hp2 := hp2.then s7 | replace hp2 := hp2.trans s7)
    try (first | replace bw1 := s7 _ _ bw1 | replace bw1 := bw1.same s7 | replace bw1 := bw1.then s7 | replace bw1 := bw1.trans s7)
    try (first | replace sh1 := s7 _ _ sh1 | replace sh1 := sh1.same s7 | replace sh1 := sh1.then s7 | replace sh1 := sh1.trans s7)
    try (first | replace B2 := s7 _ _ B2 | replace B2 := B2.same s7 | replace B2 := B2.then s7 | replace B2 := B2.trans s7)
    try (first | replace kpA := s7 _ _ kpA | replace kpA := kpA.same s7 | replace kpA := kpA.then s7 | replace kpA := kpA.trans s7)
    try (first | replace h3 := s7 _ _ h3 | replace h3 := h3.same s7 | replace h3 := h3.then s7 | replace h3 := h3.trans s7)
    try (first | replace h4 := s7 _ _ h4 | replace h4 := h4.same s7 | replace h4 := h4.then s7 | replace h4 := h4.trans s7)
    try (first | replace h5 := s7 _ _ h5 | replace h5 := h5.same s7 | replace h5 := h5.then s7 | replace h5 := h5.trans s7)
    try (first | replace h6 := s7 _ _ h6 | replace h6 := h6.same s7 | replace h6 := h6.then s7 | replace h6 := h6.trans s7)
    refine ⟨b, rfl, B2, fun v2 d2 H8 kp8 bw2 sh2 sm2 => ⟨by decide, ?_⟩⟩
    try (first | replace hp2 := Kp.lst kp8 B2 hp2 | replace hp2 := Kp.tup kp8 B2 hp2 | replace hp2 := Kp.ins kp8 B2 hp2 | replace hp2 := hp2.kp B2 kp8 | replace hp2 := Kp.trans hp2 kp8)
    try (first | replace bw1 := Kp.lst kp8 B2 bw1 | replace bw1 := Kp.tup kp8 B2 bw1 | replace bw1 := Kp.ins kp8 B2 bw1 | replace bw1 := bw1.kp B2 kp8 | replace bw1 := Kp.trans bw1 kp8)
    try (first | replace sh1 := Kp.lst kp8 B2 sh1 | replace sh1 := Kp.tup kp8 B2 sh1 | replace sh1 := Kp.ins kp8 B2 sh1 | replace sh1 := sh1.kp B2 kp8 | replace sh1 := Kp.trans sh1 kp8)
    try (first | replace kpA := Kp.lst kp8 B2 kpA | replace kpA := Kp.tup kp8 B2 kpA | replace kpA := Kp.ins kp8 B2 kpA | replace kpA := kpA.kp B2 kp8 | replace kpA := Kp.trans kpA kp8)
    try (first | replace h3 := Kp.lst kp8 B2 h3 | replace h3 := Kp.tup kp8 B2 h3 | replace h3 := Kp.ins kp8 B2 h3 | replace h3 := h3.kp B2 kp8 | replace h3 := Kp.trans h3 kp8)
    try (first | replace h4 := Kp.lst kp8 B2 h4 | replace h4 := Kp.tup kp8 B2 h4 | replace h4 := Kp.ins kp8 B2 h4 | replace h4 := h4.kp B2 kp8 | replace h4 := Kp.trans h4 kp8)
    try (first | replace h5 := Kp.lst kp8 B2 h5 | replace h5 := Kp.tup kp8 B2 h5 | replace h5 := Kp.ins kp8 B2 h5 | replace h5 := h5.kp B2 kp8 | replace h5 := Kp.trans h5 kp8)
    try (first | replace h6 := Kp.lst kp8 B2 h6 | replace h6 := Kp.tup kp8 B2 h6 | replace h6 := Kp.ins kp8 B2 h6 | replace h6 := h6.kp B2 kp8 | replace h6 := Kp.trans h6 kp8)
    try (first | replace h7 := Kp.lst kp8 B2 h7 | replace h7 := Kp.tup kp8 B2 h7 | replace h7 := Kp.ins kp8 B2 h7 | replace h7 := h7.kp B2 kp8 | replace h7 := Kp.trans h7 kp8)
    replace B2 := Kp.bag kp8
    intro q6 m6
    generalize e_q6 : upd H8 q6 _ = H9
    have s9 := new_s m6 e_q6
    have h9 := new_h e_q6
    clear e_q6
    try (first | replace hp2 := s9 _ _ hp2 | replace hp2 := hp2.same s9 | replace hp2 := hp2.then s9 | replace hp2 := hp2.trans s9)
    try (first | replace bw1 := s9 _ _ bw1 | replace bw1 := bw1.same s9 | replace bw1 := bw1.then s9 | replace bw1 := bw1.trans s9)
    try (first | replace sh1 := s9 _ _ sh1 | replace sh1 := sh1.same s9 | replace sh1 := sh1.then s9 | replace sh1 := sh1.trans s9)
    try (first | replace B2 := s9 _ _ B2 | replace B2 := B2.same s9 | replace B2 := B2.then s9 | replace B2 := B2.trans s9)
    try (first | replace kpA := s9 _ _ kpA | replace kpA := kpA.same s9 | replace kpA := kpA.then s9 | replace kpA := kpA.trans s9)
    try (first | replace h3 := s9 _ _ h3 | replace h3 := h3.same s9 | replace h3 := h3.then s9 | replace h3 := h3.trans s9)
    try (first | replace h4 := s9 _ _ h4 | replace h4 := h4.same s9 | replace h4 := h4.then s9 | replace h4 := h4.trans s9)
    try (first | replace h5 := s9 _ _ h5 | replace h5 := h5.same s9 | replace h5 := h5.then s9 | replace h5 := h5.trans s9)
    try (first | replace h6 := s9 _ _ h6 | replace h6 := h6.same s9 | replace h6 := h6.then s9 | replace h6 := h6.trans s9)
    try (first | replace h7 := s9 _ _ h7 | replace h7 := h7.same s9 | replace h7 := h7.then s9 | replace h7 := h7.trans s9)
    try (first | replace bw2 := s9 _ _ bw2 | replace bw2 := bw2.same s9 | replace bw2 := bw2.then s9 | replace bw2 := bw2.trans s9)
    try (first | replace sh2 := s9 _ _ sh2 | replace sh2 := sh2.same s9 | replace sh2 := sh2.then s9 | replace sh2 := sh2.trans s9)
    refine ⟨_, h7, ?_, ?_⟩
    · rw [cutV_hi, cutV_lo, List.length_append, List.length_append, List.length_drop, List.length_take, List.length_map]
      show _ + 1 + _ + 1 ≤ _
      exact sz (by omega)
    intro q7 m7
    generalize e_q7 : upd H9 q7 _ = H10
    have s10 := new_s m7 e_q7
    have h10 := new_h e_q7
    clear e_q7
    try (first | replace hp2 := s10 _ _ hp2 | replace hp2 := hp2.same s10 | replace hp2 := hp2.then s10 | replace hp2 := hp2.trans s10)
    try (first | replace bw1 := s10 _ _ bw1 | replace bw1 := bw1.same s10 | replace bw1 := bw1.then s10 | replace bw1 := bw1.trans s10)
    try (first | replace sh1 := s10 _ _ sh1 | replace sh1 := sh1.same s10 | replace sh1 := sh1.then s10 | replace sh1 := sh1.trans s10)
    try (first | replace B2 := s10 _ _ B2 | replace B2 := B2.same s10 | replace B2 := B2.then s10 | replace B2 := B2.trans s10)
    try (first | replace kpA := s10 _ _ kpA | replace kpA := kpA.same s10 | replace kpA := kpA.then s10 | replace kpA := kpA.trans s10)
    try (first | replace h3 := s10 _ _ h3 | replace h3 := h3.same s10 | replace h3 := h3.then s10 | replace h3 := h3.trans s10)
    try (first | replace h4 := s10 _ _ h4 | replace h4 := h4.same s10 | replace h4 := h4.then s10 | replace h4 := h4.trans s10)
    try (first | replace h5 := s10 _ _ h5 | replace h5 := h5.same s10 | replace h5 := h5.then s10 | replace h5 := h5.trans s10)
    try (first | replace h6 := s10 _ _ h6 | replace h6 := h6.same s10 | replace h6 := h6.then s10 | replace h6 := h6.trans s10)
    try (first | replace h7 := s10 _ _ h7 | replace h7 := h7.same s10 | replace h7 := h7.then s10 | replace h7 := h7.trans s10)
    try (first | replace bw2 := s10 _ _ bw2 | replace bw2 := bw2.same s10 | replace bw2 := bw2.then s10 | replace bw2 := bw2.trans s10)
    try (first | replace sh2 := s10 _ _ sh2 | replace sh2 := sh2.same s10 | replace sh2 := sh2.then s10 | replace sh2 := sh2.trans s10)
    try (first | replace h9 := s10 _ _ h9 | replace h9 := h9.same s10 | replace h9 := h9.then s10 | replace h9 := h9.trans s10)
    refine k1 _ _ ?_
    clear k1
    have e : cutV (ms l) none (some (j : Int)) ++ [v] ++ cutV (ms l) (some (j : Int)) none ++ [v2] = ms (l.take j) ++ (v :: (ms (l.drop j) ++ [v2])) := by
      rw [cutV_hi, cutV_lo, ms, ms, ms, List.map_take, List.map_drop]
      simp
    rw [e] at h10
    clear e h3 h4 h5 h6 h7 h9 hp2
    have fb : FirstBad H10 (ms (l.take j) ++ (v :: (ms (l.drop j) ++ [v2]))) v := FirstBad.pre (.here bw1) fun z hz => ⟨(hw z (List.mem_of_mem_take hz)).1, Nat.le_trans (hw z (List.mem_of_mem_take hz)).2 (by decide)⟩
    have dl : DpAll K H10 (ms (l.take j) ++ (v :: (ms (l.drop j) ++ [v2]))) ((l.take j).map .str ++ (d :: ((l.drop j).map .str ++ [d2]))) := dpAll_app (dpAll_ms _) (.cons sh1.dp (dpAll_app (dpAll_ms _) (.cons sh2.dp .nil)))
    have smz : ∀ z ∈ l, Sm (.str z) 10 1000 := fun z hz => (sm_str fun c hc => Nat.lt_trans (sign_lt c (isW_mem (hw z hz).1 c hc)) (by decide)).mono (by decide) (by have := (hw z hz).2; omega)
    have sml : Sm (.list ((l.take j).map .str ++ (d :: ((l.drop j).map .str ++ [d2])))) 11 50000 := by
      refine (sm_list (m := 10) (k := 1000) fun x hx => ?_).mono (Nat.le_refl _) ?_
      · simp only [List.mem_append, List.mem_cons, List.mem_map, List.not_mem_nil, or_false] at hx
        rcases hx with ⟨z, hz, rfl⟩ | rfl | ⟨z, hz, rfl⟩ | rfl
        · exact smz z (List.mem_of_mem_take hz)
        · exact sm1
        · exact smz z (List.mem_of_mem_drop hz)
        · exact sm2
      · simp only [List.length_append, List.length_cons, List.length_map, List.length_take, List.length_drop, List.length_nil]
        omega
    have lb : (ms (l.take j) ++ (v :: (ms (l.drop j) ++ [v2]))).length ≤ 100 := by
      simp only [List.length_append, List.length_cons, List.length_map, List.length_take, List.length_drop, List.length_nil]
      omega
    generalize (ms (l.take j) ++ (v :: (ms (l.drop j) ++ [v2]))) = bad at h10 fb dl lb
    generalize ((l.take j).map .str ++ (d :: ((l.drop j).map .str ++ [d2]))) = bd at dl sml
    have wok : ([V.str "word", V.str d.shown] : List V).all isF = true := by
      show (isF (.str "word") && (isF (.str d.shown) && true)) = true
      rw [sh1.ok]
      decide +kernel
    have shb : Shw K H10 (.ref q7) (.list bd) := sml.shw (.lst (.inl (.inl h10)) dl) (by decide) (by decide)
    clear dl sml
    have yes : ∀ {A B : Prop} {l : List V}, A → (if l = l then A else B) := fun h => by rw [if_pos rfl]; exact h
    have gv : GoodV (.int n) n := ⟨rfl, n1, n3⟩
    refine seqI fun K1 k1 => ?_
    walk_at "rd"
    refine ⟨by decide, ?_⟩
    intro p1 m11
    generalize e_p1 : upd H10 p1 _ = H11
    have s11 := new_s m11 e_p1
    have g1 := new_h e_p1
    clear e_p1
    try (first | replace B2 := s11 _ _ B2 | replace B2 := B2.same s11 | replace B2 := B2.then s11 | replace B2 := B2.trans s11)
    try (first | replace kpA := s11 _ _ kpA | replace kpA := kpA.same s11 | replace kpA := kpA.then s11 | replace kpA := kpA.trans s11)
    try (first | replace h10 := s11 _ _ h10 | replace h10 := h10.same s11 | replace h10 := h10.then s11 | replace h10 := h10.trans s11)
    try (first | replace fb := s11 _ _ fb | replace fb := fb.same s11 | replace fb := fb.then s11 | replace fb := fb.trans s11)
    try (first | replace sh1 := s11 _ _ sh1 | replace sh1 := sh1.same s11 | replace sh1 := sh1.then s11 | replace sh1 := sh1.trans s11)
    try (first | replace shb := s11 _ _ shb | replace shb := shb.same s11 | replace shb := shb.then s11 | replace shb := shb.trans s11)
    refine ⟨by decide, ?_⟩
    intro p2 m12
    generalize e_p2 : upd H11 p2 _ = H12
    have s12 := new_s m12 e_p2
    have g2 := new_h e_p2
    clear e_p2
    try (first | replace B2 := s12 _ _ B2 | replace B2 := B2.same s12 | replace B2 := B2.then s12 | replace B2 := B2.trans s12)
    try (first | replace kpA := s12 _ _ kpA | replace kpA := kpA.same s12 | replace kpA := kpA.then s12 | replace kpA := kpA.trans s12)
    try (first | replace h10 := s12 _ _ h10 | replace h10 := h10.same s12 | replace h10 := h10.then s12 | replace h10 := h10.trans s12)
    try (first | replace fb := s12 _ _ fb | replace fb := fb.same s12 | replace fb := fb.then s12 | replace fb := fb.trans s12)
    try (first | replace sh1 := s12 _ _ sh1 | replace sh1 := sh1.same s12 | replace sh1 := sh1.then s12 | replace sh1 := sh1.trans s12)
    try (first | replace shb := s12 _ _ shb | replace shb := shb.same s12 | replace shb := shb.then s12 | replace shb := shb.trans s12)
    try (first | replace g1 := s12 _ _ g1 | replace g1 := g1.same s12 | replace g1 := g1.then s12 | replace g1 := g1.trans s12)
    refine ⟨⟨by decide, by decide, by decide⟩, by decide, ?_⟩
    intro p3 m13
    generalize e_p3 : upd H12 p3 _ = H13
    have s13 := new_s m13 e_p3
    have g3 := new_h e_p3
    clear e_p3
    try (first | replace B2 := s13 _ _ B2 | replace B2 := B2.same s13 | replace B2 := B2.then s13 | replace B2 := B2.trans s13)
    try (first | replace kpA := s13 _ _ kpA | replace kpA := kpA.same s13 | replace kpA := kpA.then s13 | replace kpA := kpA.trans s13)
    try (first | replace h10 := s13 _ _ h10 | replace h10 := h10.same s13 | replace h10 := h10.then s13 | replace h10 := h10.trans s13)
    try (first | replace fb := s13 _ _ fb | replace fb := fb.same s13 | replace fb := fb.then s13 | replace fb := fb.trans s13)
    try (first | replace sh1 := s13 _ _ sh1 | replace sh1 := sh1.same s13 | replace sh1 := sh1.then s13 | replace sh1 := sh1.trans s13)
    try (first | replace shb := s13 _ _ shb | replace shb := shb.same s13 | replace shb := shb.then s13 | replace shb := shb.trans s13)
    try (first | replace g1 := s13 _ _ g1 | replace g1 := g1.same s13 | replace g1 := g1.then s13 | replace g1 := g1.trans s13)
    try (first | replace g2 := s13 _ _ g2 | replace g2 := g2.same s13 | replace g2 := g2.then s13 | replace g2 := g2.trans s13)
    refine ⟨b, 10, rfl, B2, by decide, by decide, fun g H14 r0 r1 kp14 => ⟨g, rfl, _, kp14.lst B2 g3, ?_⟩⟩
    obtain ⟨sv, hs, hm⟩ := atI_mem (xs := strL p1 p2) r0 (show g < 10 from r1)
    try (first | replace kpA := Kp.lst kp14 B2 kpA | replace kpA := Kp.tup kp14 B2 kpA | replace kpA := Kp.ins kp14 B2 kpA | replace kpA := kpA.kp B2 kp14 | replace kpA := Kp.trans kpA kp14)
    try (first | replace h10 := Kp.lst kp14 B2 h10 | replace h10 := Kp.tup kp14 B2 h10 | replace h10 := Kp.ins kp14 B2 h10 | replace h10 := h10.kp B2 kp14 | replace h10 := Kp.trans h10 kp14)
    try (first | replace fb := Kp.lst kp14 B2 fb | replace fb := Kp.tup kp14 B2 fb | replace fb := Kp.ins kp14 B2 fb | replace fb := fb.kp B2 kp14 | replace fb := Kp.trans fb kp14)
    try (first | replace sh1 := Kp.lst kp14 B2 sh1 | replace sh1 := Kp.tup kp14 B2 sh1 | replace sh1 := Kp.ins kp14 B2 sh1 | replace sh1 := sh1.kp B2 kp14 | replace sh1 := Kp.trans sh1 kp14)
    try (first | replace shb := Kp.lst kp14 B2 shb | replace shb := Kp.tup kp14 B2 shb | replace shb := Kp.ins kp14 B2 shb | replace shb := shb.kp B2 kp14 | replace shb := Kp.trans shb kp14)
    try (first | replace g1 := Kp.lst kp14 B2 g1 | replace g1 := Kp.tup kp14 B2 g1 | replace g1 := Kp.ins kp14 B2 g1 | replace g1 := g1.kp B2 kp14 | replace g1 := Kp.trans g1 kp14)
    try (first | replace g2 := Kp.lst kp14 B2 g2 | replace g2 := Kp.tup kp14 B2 g2 | replace g2 := Kp.ins kp14 B2 g2 | replace g2 := g2.kp B2 kp14 | replace g2 := Kp.trans g2 kp14)
    try (first | replace g3 := Kp.lst kp14 B2 g3 | replace g3 := Kp.tup kp14 B2 g3 | replace g3 := Kp.ins kp14 B2 g3 | replace g3 := g3.kp B2 kp14 | replace g3 := Kp.trans g3 kp14)
    replace B2 := Kp.bag kp14
    obtain ⟨ds, bv, sh⟩ := str_bad (K := K) hm g1 g2
    refine ⟨sv, hs, k1 _ _ ?_⟩
    clear k1 hs hm
    have vok : ([V.str "version", V.str ds.shown] : List V).all isF = true := by
      show (isF (.str "version") && (isF (.str ds.shown) && true)) = true
      rw [sh.ok]
      decide +kernel
    refine seqI fun K1 k1 => ?_
    simp only [rRepr]
    walk_at "rd"
    refine ⟨_, shb.dp, shb.sh, shb.nd, shb.dep, shb.len, k1 _ _ ?_⟩
    clear k1
    refine seqI fun K1 k1 => ?_
    refine forI fun R kR => ?_
    walk_at "rd"
    refine ⟨_, h10, ?_⟩
    intro lt mt
    generalize e_lt : upd H14 lt _ = H15
    have s15 := new_s mt e_lt
    have ht := new_h e_lt
    clear e_lt
    try (first | replace B2 := s15 _ _ B2 | replace B2 := B2.same s15 | replace B2 := B2.then s15 | replace B2 := B2.trans s15)
    try (first | replace kpA := s15 _ _ kpA | replace kpA := kpA.same s15 | replace kpA := kpA.then s15 | replace kpA := kpA.trans s15)
    try (first | replace h10 := s15 _ _ h10 | replace h10 := h10.same s15 | replace h10 := h10.then s15 | replace h10 := h10.trans s15)
    try (first | replace fb := s15 _ _ fb | replace fb := fb.same s15 | replace fb := fb.then s15 | replace fb := fb.trans s15)
    try (first | replace sh1 := s15 _ _ sh1 | replace sh1 := sh1.same s15 | replace sh1 := sh1.then s15 | replace sh1 := sh1.trans s15)
    try (first | replace shb := s15 _ _ shb | replace shb := shb.same s15 | replace shb := shb.then s15 | replace shb := shb.trans s15)
    try (first | replace g1 := s15 _ _ g1 | replace g1 := g1.same s15 | replace g1 := g1.then s15 | replace g1 := g1.trans s15)
    try (first | replace g2 := s15 _ _ g2 | replace g2 := g2.same s15 | replace g2 := g2.then s15 | replace g2 := g2.trans s15)
    try (first | replace g3 := s15 _ _ g3 | replace g3 := g3.same s15 | replace g3 := g3.then s15 | replace g3 := g3.trans s15)
    try (first | replace bv := s15 _ _ bv | replace bv := bv.same s15 | replace bv := bv.then s15 | replace bv := bv.trans s15)
    try (first | replace sh := s15 _ _ sh | replace sh := sh.same s15 | replace sh := sh.then s15 | replace sh := sh.trans s15)
    refine ⟨by decide, ?_⟩
    intro pl ml
    generalize e_pl : upd H15 pl _ = H16
    have s16 := new_s ml e_pl
    have hl := new_h e_pl
    clear e_pl
    try (first | replace B2 := s16 _ _ B2 | replace B2 := B2.same s16 | replace B2 := B2.then s16 | replace B2 := B2.trans s16)
    try (first | replace kpA := s16 _ _ kpA | replace kpA := kpA.same s16 | replace kpA := kpA.then s16 | replace kpA := kpA.trans s16)
    try (first | replace h10 := s16 _ _ h10 | replace h10 := h10.same s16 | replace h10 := h10.then s16 | replace h10 := h10.trans s16)
    try (first | replace fb := s16 _ _ fb | replace fb := fb.same s16 | replace fb := fb.then s16 | replace fb := fb.trans s16)
    try (first | replace sh1 := s16 _ _ sh1 | replace sh1 := sh1.same s16 | replace sh1 := sh1.then s16 | replace sh1 := sh1.trans s16)
    try (first | replace shb := s16 _ _ shb | replace shb := shb.same s16 | replace shb := shb.then s16 | replace shb := shb.trans s16)
    try (first | replace g1 := s16 _ _ g1 | replace g1 := g1.same s16 | replace g1 := g1.then s16 | replace g1 := g1.trans s16)
    try (first | replace g2 := s16 _ _ g2 | replace g2 := g2.same s16 | replace g2 := g2.then s16 | replace g2 := g2.trans s16)
    try (first | replace g3 := s16 _ _ g3 | replace g3 := g3.same s16 | replace g3 := g3.then s16 | replace g3 := g3.trans s16)
    try (first | replace bv := s16 _ _ bv | replace bv := bv.same s16 | replace bv := bv.then s16 | replace bv := bv.trans s16)
    try (first | replace sh := s16 _ _ sh | replace sh := sh.same s16 | replace sh := sh.then s16 | replace sh := sh.trans s16)
    try (first | replace ht := s16 _ _ ht | replace ht := ht.same s16 | replace ht := ht.then s16 | replace ht := ht.trans s16)
    refine ⟨⟨_, .inl (.inl hl)⟩, kR _ _ ?_⟩
    clear kR s3 s4 s5 s6 s7 kp8 s9 s10 bw1 bw2 sh2 smz s11 s12 s13 kp14 g1 g2 g3 s15 s16
    have ws : ∀ x ∈ [V.ref q7, V.ref lt], ∃ a, x = .ref a ∧ SqA K H16 a bad := by
      intro x hx
      simp only [List.mem_cons, List.not_mem_nil, or_false] at hx
      rcases hx with rfl | rfl
      · exact ⟨_, rfl, .inl (.inl (.inl h10))⟩
      · exact ⟨_, rfl, .inr (.inl (.inl ht))⟩
    refine for_list (K := K) (a := pl) (xs := [.ref q7, .ref lt]) (fun i σ H' => ∃ v8, σ = [some (.ref b), some (.int n), some (.ref p), some v, some (.int j), some (.ref q7), some sv, some (.str (PyData.shown (.list bd))), v8] ∧ Same H16 H') ⟨none, rfl, Same.refl _⟩ (fun i σ H' _ ⟨_, _, e⟩ => .inl (.inl (e _ _ hl))) ?_ ?_
    · rintro i x σ H17 hx ⟨v8, rfl, s17⟩
      obtain ⟨a, rfl, hq⟩ := ws x (List.mem_of_getElem? hx)
      clear k1
      try (first | replace fb := s17 _ _ fb | replace fb := fb.same s17 | replace fb := fb.then s17 | replace fb := fb.trans s17)
      try (first | replace sh1 := s17 _ _ sh1 | replace sh1 := sh1.same s17 | replace sh1 := sh1.then s17 | replace sh1 := sh1.trans s17)
      try (first | replace sh := s17 _ _ sh | replace sh := sh.same s17 | replace sh := sh.then s17 | replace sh := sh.trans s17)
      try (first | replace bv := s17 _ _ bv | replace bv := bv.same s17 | replace bv := bv.then s17 | replace bv := bv.trans s17)
      try (first | replace hq := s17 _ _ hq | replace hq := hq.same s17 | replace hq := hq.then s17 | replace hq := hq.trans s17)
      show tSeq _ _ _ _ _
      refine seqI fun K1 k1 => ?_
      walk_at "rd"
      refine ⟨_, a, bad, rfl, hq, by omega, .inr ⟨n, v, d, gv, fb, sh1, fun p8 H18 s18 g8 => ?_⟩⟩
      try (first | replace fb := s18 _ _ fb | replace fb := fb.same s18 | replace fb := fb.then s18 | replace fb := fb.trans s18)
      try (first | replace sh1 := s18 _ _ sh1 | replace sh1 := sh1.same s18 | replace sh1 := sh1.then s18 | replace sh1 := sh1.trans s18)
      try (first | replace sh := s18 _ _ sh | replace sh := sh.same s18 | replace sh := sh.then s18 | replace sh := sh.trans s18)
      try (first | replace bv := s18 _ _ bv | replace bv := bv.same s18 | replace bv := bv.then s18 | replace bv := bv.trans s18)
      try (first | replace hq := s18 _ _ hq | replace hq := hq.same s18 | replace hq := hq.then s18 | replace hq := hq.trans s18)
      refine ⟨d, sh1.dp, sh1.sh, sh1.nd, sh1.dep, sh1.len, by decide, ?_⟩
      intro p9 m9
      generalize e_p9 : upd H18 p9 _ = H19
      have s19 := new_s m9 e_p9
      have g9 := new_h e_p9
      clear e_p9
      try (first | replace fb := s19 _ _ fb | replace fb := fb.same s19 | replace fb := fb.then s19 | replace fb := fb.trans s19)
      try (first | replace sh1 := s19 _ _ sh1 | replace sh1 := sh1.same s19 | replace sh1 := sh1.then s19 | replace sh1 := sh1.trans s19)
      try (first | replace sh := s19 _ _ sh | replace sh := sh.same s19 | replace sh := sh.then s19 | replace sh := sh.trans s19)
      try (first | replace bv := s19 _ _ bv | replace bv := bv.same s19 | replace bv := bv.then s19 | replace bv := bv.trans s19)
      try (first | replace hq := s19 _ _ hq | replace hq := hq.same s19 | replace hq := hq.then s19 | replace hq := hq.trans s19)
      try (first | replace g8 := s19 _ _ g8 | replace g8 := g8.same s19 | replace g8 := g8.then s19 | replace g8 := g8.trans s19)
      refine ⟨p8, rfl, _, g8, wok, wok, yes (k1 _ _ ?_)⟩
      clear k1
      walk_at "rd"
      refine ⟨_, a, bad, rfl, hq, by omega, .inl ⟨ds, bv, sh, fun p10 H20 s20 g10 => ?_⟩⟩
      try (first | replace fb := s20 _ _ fb | replace fb := fb.same s20 | replace fb := fb.then s20 | replace fb := fb.trans s20)
      try (first | replace sh1 := s20 _ _ sh1 | replace sh1 := sh1.same s20 | replace sh1 := sh1.then s20 | replace sh1 := sh1.trans s20)
      try (first | replace sh := s20 _ _ sh | replace sh := sh.same s20 | replace sh := sh.then s20 | replace sh := sh.trans s20)
      try (first | replace bv := s20 _ _ bv | replace bv := bv.same s20 | replace bv := bv.then s20 | replace bv := bv.trans s20)
      try (first | replace hq := s20 _ _ hq | replace hq := hq.same s20 | replace hq := hq.then s20 | replace hq := hq.trans s20)
      try (first | replace g8 := s20 _ _ g8 | replace g8 := g8.same s20 | replace g8 := g8.then s20 | replace g8 := g8.trans s20)
      try (first | replace g9 := s20 _ _ g9 | replace g9 := g9.same s20 | replace g9 := g9.then s20 | replace g9 := g9.trans s20)
      refine ⟨ds, sh.dp, sh.sh, sh.nd, sh.dep, sh.len, by decide, ?_⟩
      intro p11 m11
      generalize e_p11 : upd H20 p11 _ = H21
      have s21 := new_s m11 e_p11
      have g11 := new_h e_p11
      clear e_p11
      try (first | replace fb := s21 _ _ fb | replace fb := fb.same s21 | replace fb := fb.then s21 | replace fb := fb.trans s21)
      try (first | replace sh1 := s21 _ _ sh1 | replace sh1 := sh1.same s21 | replace sh1 := sh1.then s21 | replace sh1 := sh1.trans s21)
      try (first | replace sh := s21 _ _ sh | replace sh := sh.same s21 | replace sh := sh.then s21 | replace sh := sh.trans s21)
      try (first | replace bv := s21 _ _ bv | replace bv := bv.same s21 | replace bv := bv.then s21 | replace bv := bv.trans s21)
      try (first | replace hq := s21 _ _ hq | replace hq := hq.same s21 | replace hq := hq.then s21 | replace hq := hq.trans s21)
      try (first | replace g8 := s21 _ _ g8 | replace g8 := g8.same s21 | replace g8 := g8.then s21 | replace g8 := g8.trans s21)
      try (first | replace g9 := s21 _ _ g9 | replace g9 := g9.same s21 | replace g9 := g9.then s21 | replace g9 := g9.trans s21)
      try (first | replace g10 := s21 _ _ g10 | replace g10 := g10.same s21 | replace g10 := g10.then s21 | replace g10 := g10.trans s21)
      refine ⟨p10, rfl, _, g10, vok, vok, yes ?_⟩
      exact (((s17.trans s18).trans s19).trans s20).trans s21
    rintro σ H17 ⟨v8, rfl, s17⟩
    refine k1 _ _ ?_
    clear k1
    try (first | replace B2 := s17 _ _ B2 | replace B2 := B2.same s17 | replace B2 := B2.then s17 | replace B2 := B2.trans s17)
    try (first | replace kpA := s17 _ _ kpA | replace kpA := kpA.same s17 | replace kpA := kpA.then s17 | replace kpA := kpA.trans s17)
    try (first | replace shb := s17 _ _ shb | replace shb := shb.same s17 | replace shb := shb.then s17 | replace shb := shb.trans s17)
    try (first | replace sh := s17 _ _ sh | replace sh := sh.same s17 | replace sh := sh.then s17 | replace sh := sh.trans s17)
    try (first | replace bv := s17 _ _ bv | replace bv := bv.same s17 | replace bv := bv.then s17 | replace bv := bv.trans s17)
    walk_at "rd"
    refine ⟨.list bd, shb.dp, shb.sh, shb.nd, shb.dep, shb.len, ?_⟩
    rw [if_pos rfl]
    refine ⟨by decide, ?_⟩
    intro p20 m20
    generalize e_p20 : upd H17 p20 _ = H18
    have s18 := new_s m20 e_p20
    have h20 := new_h e_p20
    clear e_p20
    try (first | replace B2 := s18 _ _ B2 | replace B2 := B2.same s18 | replace B2 := B2.then s18 | replace B2 := B2.trans s18)
    try (first | replace kpA := s18 _ _ kpA | replace kpA := kpA.same s18 | replace kpA := kpA.then s18 | replace kpA := kpA.trans s18)
    try (first | replace shb := s18 _ _ shb | replace shb := shb.same s18 | replace shb := shb.then s18 | replace shb := shb.trans s18)
    try (first | replace sh := s18 _ _ sh | replace sh := sh.same s18 | replace sh := sh.then s18 | replace sh := sh.trans s18)
    try (first | replace bv := s18 _ _ bv | replace bv := bv.same s18 | replace bv := bv.then s18 | replace bv := bv.trans s18)
    refine ⟨_, p20, [], rfl, .inl (.inl (.inl h20)), by decide, .inl ⟨ds, bv, sh, fun p21 H19 s19 h21 => ?_⟩⟩
    try (first | replace B2 := s19 _ _ B2 | replace B2 := B2.same s19 | replace B2 := B2.then s19 | replace B2 := B2.trans s19)
    try (first | replace kpA := s19 _ _ kpA | replace kpA := kpA.same s19 | replace kpA := kpA.then s19 | replace kpA := kpA.trans s19)
    try (first | replace shb := s19 _ _ shb | replace shb := shb.same s19 | replace shb := shb.then s19 | replace shb := shb.trans s19)
    try (first | replace sh := s19 _ _ sh | replace sh := sh.same s19 | replace sh := sh.then s19 | replace sh := sh.trans s19)
    try (first | replace bv := s19 _ _ bv | replace bv := bv.same s19 | replace bv := bv.then s19 | replace bv := bv.trans s19)
    try (first | replace h20 := s19 _ _ h20 | replace h20 := h20.same s19 | replace h20 := h20.then s19 | replace h20 := h20.trans s19)
    refine ⟨ds, sh.dp, sh.sh, sh.nd, sh.dep, sh.len, by decide, ?_⟩
    intro p22 m22
    generalize e_p22 : upd H19 p22 _ = H20
    have s20 := new_s m22 e_p22
    have h22 := new_h e_p22
    clear e_p22
    try (first | replace B2 := s20 _ _ B2 | replace B2 := B2.same s20 | replace B2 := B2.then s20 | replace B2 := B2.trans s20)
    try (first | replace kpA := s20 _ _ kpA | replace kpA := kpA.same s20 | replace kpA := kpA.then s20 | replace kpA := kpA.trans s20)
    try (first | replace shb := s20 _ _ shb | replace shb := shb.same s20 | replace shb := shb.then s20 | replace shb := shb.trans s20)
    try (first | replace sh := s20 _ _ sh | replace sh := sh.same s20 | replace sh := sh.then s20 | replace sh := sh.trans s20)
    try (first | replace bv := s20 _ _ bv | replace bv := bv.same s20 | replace bv := bv.then s20 | replace bv := bv.trans s20)
    try (first | replace h20 := s20 _ _ h20 | replace h20 := h20.same s20 | replace h20 := h20.then s20 | replace h20 := h20.trans s20)
    try (first | replace h21 := s20 _ _ h21 | replace h21 := h21.same s20 | replace h21 := h21.then s20 | replace h21 := h21.trans s20)
    refine ⟨p21, rfl, _, h21, vok, vok, ?_⟩
    rw [decide_eq_true rfl]
    exact q _ kpA
end
section
variable {P : Program} {w : World} {K : PySem.W.Frag} {mg : Str → Option Value} {base : Heap}
theorem ok__law_is (S : Src K mg "_law_is" s__law_is) (T : Tx P K mg) (C_Lexicon_MU_lenU : CalM P w K mg base CX0 1 (He.ga K "Lexicon") "__len__" ["self"] (spLLen K)) (C_Lexicon_MU_iterU : CalM P w K mg base CX0 1 (He.ga K "Lexicon") "__iter__" ["self"] (spLIter K)) (C_Lexicon_MU_getitemU : CalM P w K mg base CX0 1 (He.ga K "Lexicon") "__getitem__" ["self", "k"] (spLGet K))  : Cal P w K mg base CX0 5 "_law_is" ["_law_lexicon", "_law_forms_here"] (spIs K) := by
  refine S.cal sc__law_is bn__law_is (fun vs H Q E h => ?_) (fun f cdv A outer s H vs Q E hr h => ?_)
  · first | (obtain ⟨rfl, _⟩ := h; rfl) | (obtain ⟨_, rfl, _⟩ := h; rfl) | (obtain ⟨_, _, rfl, _⟩ := h; rfl) | (obtain ⟨_, _, _, rfl, _⟩ := h; rfl) | (obtain ⟨_, _, _, _, rfl, _⟩ := h; rfl) | (obtain ⟨_, _, _, _, _, rfl, _⟩ := h; rfl) | (obtain ⟨_, _, _, _, _, _, rfl, _⟩ := h; rfl) | (obtain ⟨_, _, _, _, _, _, _, rfl, _⟩ := h; rfl) | (obtain ⟨_, _, _, _, _, _, _, _, rfl, _⟩ := h; rfl) | (obtain ⟨_, _, _, _, _, _, _, _, _, rfl, _⟩ := h; rfl)
  · skip
    obtain ⟨f_Lexicon_MU_lenU, fd_Lexicon_MU_lenU, m_Lexicon_MU_lenU, b_Lexicon_MU_lenU, G_Lexicon_MU_lenU⟩ := C_Lexicon_MU_lenU.ex
    obtain ⟨f_Lexicon_MU_iterU, fd_Lexicon_MU_iterU, m_Lexicon_MU_iterU, b_Lexicon_MU_iterU, G_Lexicon_MU_iterU⟩ := C_Lexicon_MU_iterU.ex
    obtain ⟨f_Lexicon_MU_getitemU, fd_Lexicon_MU_getitemU, m_Lexicon_MU_getitemU, b_Lexicon_MU_getitemU, G_Lexicon_MU_getitemU⟩ := C_Lexicon_MU_getitemU.ex
    refine ⟨_, (pss_cons (ps_if (PW.pt (pw_or (pt_not (pt_val (Fx.pe_cB Fx.is_I T.b_isinstance (by decide +kernel) (Fx.pa_c (pv 0) (Fx.pa_c (pe_glob (v := .ref (He.ga K "Lexicon")) rfl T.g_Lexicon rfl) pa_nil))))) (pw_or (pt_cmpR op_ne (Fx.pe_cB (Fx.len_O C_Lexicon_MU_lenU (hr.mono (by decide)) pass0) T.b_len (by decide +kernel) (Fx.pa_c (pv 0) pa_nil)) (Fx.pe_cB Fx.len_L T.b_len (by decide +kernel) (Fx.pa_c (pv 1) pa_nil)) (nomark _)) (pw_or1 (pt_cmpR (Fx.ne_LL hr.units) (Fx.pe_cTy (Fx.list_O C_Lexicon_MU_iterU C_Lexicon_MU_lenU rfl (hr.mono (by decide))) T.b_list (by decide +kernel) (Fx.pa_c (pv 0) pa_nil)) (pv 1) (nomark _)))))) (pss_one (ps_ret pe_bl)) pss_nil)
        (pss_cons (ps_for PassesOwn.never rfl (pi_range1 rfl T.b_range (Fx.pa_c (Fx.pe_cB Fx.len_L T.b_len (by decide +kernel) (Fx.pa_c (pv 1) pa_nil)) pa_nil)) (pg_name (i := 2) sc__law_is.nd rfl (Or.inl rfl)) (pss_one (ps_if (pt_cmpR op_ne (Fx.pe_ixO C_Lexicon_MU_getitemU (hr.mono (by decide)) pass0 (pv 0) (pv 2) (fun _ _ => rfl) T.ix_Lexicon) (pe_ix Fx.ix_L (pv 1) (pv 2) (fun _ _ => rfl)) (nomark _)) (pss_one (ps_ret pe_bl)) pss_nil)))
        (pss_one (ps_ret pe_bl)))), ?_⟩
    obtain ⟨x, p, n, fs, ws, rfl, hL, hp, q⟩ := h
    obtain ⟨ok, dx, r, r', hx, hr1, hr2⟩ := id hL
    have lf := ok.lt
    refine seqI fun K1 k1 => ?_
    walk_at "rd"
    have hI := insC_of T.cl_Lexicon T.i_Lexicon
    refine ⟨_, _, _, hx, hI, _, rfl, _, hI.me, ?_⟩
    rw [if_neg (by decide)]
    refine ⟨_, _, hx, x, n, fs, ws, rfl, hL, _, rfl, by omega, by omega, _, hp, ?_⟩
    rw [if_pos (by rw [List.length_map])]
    refine ⟨_, _, hx, fun q1 nq1 => ⟨x, n, fs, ws, rfl, hL.same (same_new nq1), fun it pt hpt nit => ?_⟩⟩
    have sA := (same_new (o := .lst []) nq1).trans (same_new (o := TItO pt it 0) nit)
    have hq1 : upd (upd H q1 (.lst [])) it (TItO pt it 0) q1 = some (.lst []) := same_new nit _ _ upd_same
    refine ⟨it, rfl, pt, upd_same, dx, _, sA _ _ hx, x, n, fs, ws, rfl, hL.same sA, fs.length, rfl, by omega, by omega, upd_same, hq1, ms fs, hpt.same (same_new nit), ?_⟩
    have nit0 : H it = none := (same_new nq1).free nit
    have s3 : Same H (upd (upd (upd (upd H q1 (.lst [])) it (TItO pt it 0)) it (EndO it)) q1 (.lst (ms fs))) := fun b o e => by
      rw [upd_ne (ne_of_none e nq1), upd_ne (ne_of_none e nit0)]
      exact sA _ _ e
    have hq3 : (upd (upd (upd (upd H q1 (.lst [])) it (TItO pt it 0)) it (EndO it)) q1 (.lst (ms fs))) q1 = some (.lst (ms fs)) := upd_same
    generalize upd (upd (upd (upd H q1 (.lst [])) it (TItO pt it 0)) it (EndO it)) q1 (.lst (ms fs)) = H3 at s3 hq3
    refine ⟨_, s3 _ _ hp, ok.isF, ok.isF, ?_⟩
    rw [if_pos rfl]
    refine k1 _ _ ?_
    clear k1 hq3 sA hq1 nit0
    have hL3 := hL.same s3
    have hp3 := s3 _ _ hp
    have hx3 := s3 _ _ hx
    refine seqI fun K1 k1 => ?_
    refine forI fun R kR => ?_
    walk_at "rd"
    refine ⟨_, hp3, by rw [List.length_map]; omega, by rw [List.length_map]; omega, kR _ _ ?_⟩
    clear kR
    have e0 : (((ms fs).length : Nat) : Int).toNat = fs.length := by rw [List.length_map]; omega
    rw [e0]
    refine for_range (lo := 0) (n := fs.length) (fun i σ H' => ∃ v2, σ = [some (.ref x), some (.ref p), v2] ∧ H' = H3) ⟨none, rfl, rfl⟩ ?_ ?_
    · rintro i σ H4 hi ⟨v2, rfl, rfl⟩
      clear k1
      have ga : atI (ms fs) (0 + (i : Int)) = some (.str fs[i]) := by rw [Int.zero_add]; exact atI_get (by simp [ms, hi])
      walk_at "rd"
      refine ⟨_, _, hx3, x, _, n, fs, ws, rfl, hL3, fs[i], ga, _, hp3, _, ga, rfl, ?_⟩
      rw [if_pos rfl]
    rintro σ H4 ⟨v2, rfl, rfl⟩
    refine k1 _ _ ?_
    walk_at "rd"
    exact q _ s3
end
section
variable {P : Program} {w : World} {K : PySem.W.Frag} {mg : Str → Option Value} {base : Heap}
theorem ok__law_finds (S : Src K mg "_law_finds" s__law_finds) (T : Tx P K mg) (C__law_cut : Cal P w K mg base CX0 2 "_law_cut" ["_law_version", "_law_word"] spLCut) (C_Lexicon_M_find : CalM P w K mg base CX0 6 (He.ga K "Lexicon") "find" ["self", "word"] (spLFind K)) (C_Lexicon_MU_containsU : CalM P w K mg base CX0 7 (He.ga K "Lexicon") "__contains__" ["self", "word"] (spLIn K)) (C__law_integer : Cal P w K mg base CX0 1 "_law_integer" ["_law_thing"] spInteger)  : Cal P w K mg base CX0 8 "_law_finds" ["_law_lexicon", "_law_forms_here", "_law_number", "_law_word"] (spFinds K) := by
  refine S.cal sc__law_finds bn__law_finds (fun vs H Q E h => ?_) (fun f cdv A outer s H vs Q E hr h => ?_)
  · first | (obtain ⟨rfl, _⟩ := h; rfl) | (obtain ⟨_, rfl, _⟩ := h; rfl) | (obtain ⟨_, _, rfl, _⟩ := h; rfl) | (obtain ⟨_, _, _, rfl, _⟩ := h; rfl) | (obtain ⟨_, _, _, _, rfl, _⟩ := h; rfl) | (obtain ⟨_, _, _, _, _, rfl, _⟩ := h; rfl) | (obtain ⟨_, _, _, _, _, _, rfl, _⟩ := h; rfl) | (obtain ⟨_, _, _, _, _, _, _, rfl, _⟩ := h; rfl) | (obtain ⟨_, _, _, _, _, _, _, _, rfl, _⟩ := h; rfl) | (obtain ⟨_, _, _, _, _, _, _, _, _, rfl, _⟩ := h; rfl)
  · skip
    obtain ⟨f_Lexicon_M_find, fd_Lexicon_M_find, m_Lexicon_M_find, b_Lexicon_M_find, G_Lexicon_M_find⟩ := C_Lexicon_M_find.ex
    obtain ⟨f_Lexicon_MU_containsU, fd_Lexicon_MU_containsU, m_Lexicon_MU_containsU, b_Lexicon_MU_containsU, G_Lexicon_MU_containsU⟩ := C_Lexicon_MU_containsU.ex
    refine ⟨_, (pss_cons (ps_set (i := 4) sc__law_finds.nd rfl (Or.inl rfl) (Fx.pe_cal C__law_cut (hr.mono (by decide)) pass0 (Fx.pa_c (pv 2) (Fx.pa_c (pv 3) pa_nil))))
        (pss_cons (ps_set (i := 5) sc__law_finds.nd rfl (Or.inl rfl) (pe_meth (pv 0) T.cl_Lexicon m_Lexicon_M_find G_Lexicon_M_find (hr.mono (by decide)) b_Lexicon_M_find .nil pass0 (Fx.pa_c (pv 3) pa_nil)))
        (pss_cons (ps_if (pt_cmpR Fx.notIn_S (pv 4) (pv 1) rfl) (pss_one (ps_ret (pe_and (pe_cmpR op_isNon (pv 5) pe_non (nomark _)) (pe_one (pe_cmpR op_isBo (pe_cmpR (Fx.in_O C_Lexicon_MU_containsU (hr.mono (by decide)) pass0) (pv 3) (pv 0) rfl) pe_bl (nomark _)))))) pss_nil)
        (pss_one (ps_ret (pe_and (Fx.pe_cal C__law_integer (hr.mono (by decide)) pass0 (Fx.pa_c (pv 5) pa_nil)) (pe_and (pe_cmpR op_eq (pv 5) (pe_bm PySem.F.plainAttrs_list PySem.F.slot_list_index PySem.F.type_list_index Fx.idx_L (pv 1) (Fx.pa_c (pv 4) pa_nil)) (nomark _)) (pe_one (pe_cmpR op_isBo (pe_cmpR (Fx.in_O C_Lexicon_MU_containsU (hr.mono (by decide)) pass0) (pv 3) (pv 0) rfl) pe_bl (nomark _)))))))))), ?_⟩
    obtain ⟨x, p, n, fs, ws, z, rfl, hL, hp, wz, lz, q⟩ := h
    have ok := hL.1
    refine seqI fun K1 k1 => ?_
    walk_at "rd"
    refine ⟨n, z, rfl, ok.n1, ok.n3, lz, wz, fun H1 s1 => k1 _ _ ?_⟩
    clear k1
    have hL1 := hL.same s1
    obtain ⟨_, dx, r, r', hx, hr1, hr2⟩ := id hL1
    refine seqI fun K1 k1 => ?_
    walk_at "rd"
    refine ⟨_, _, hx, rfl, x, _, n, fs, ws, rfl, hL1, .inl ⟨z, ⟨rfl, lz, wz⟩, fun H2 s2 => k1 _ _ ?_⟩⟩
    clear k1
    have sA := s1.trans s2
    have hL2 := hL.same sA
    have hp2 := sA _ _ hp
    obtain ⟨_, dx2, _, _, hx2, _, _⟩ := id hL2
    unfold findV
    refine seqI fun K1 k1 => ?_
    refine ifI fun A B ka kb => ?_
    walk_at "rd"
    refine ⟨fs, .inl hp2, ite_i (fun hm => ?_) (fun hm => ?_)⟩
    · refine kb _ ?_
      rw [if_pos hm]
      walk_at "rd"
      refine k1 _ _ ?_
      clear k1 ka kb
      walk_at "rd"
      refine ⟨_, rfl, true, rfl, ?_⟩
      rw [if_pos rfl]
      refine ⟨tyL hp2, fs, hp2, hm, ?_⟩
      rw [if_pos rfl]
      refine ⟨_, _, hx2, x, _, n, fs, ws, rfl, hL2, .inl ⟨z, ⟨rfl, lz, wz⟩, fun H3 s3 => ⟨_, rfl, ?_⟩⟩⟩
      rw [decide_eq_true hm]
      exact q _ (sA.trans s3)
    · refine ka _ ?_
      rw [if_neg hm]
      clear k1 ka kb
      walk_at "rd"
      refine ⟨_, _, hx2, x, _, n, fs, ws, rfl, hL2, .inl ⟨z, ⟨rfl, lz, wz⟩, fun H3 s3 => ⟨_, rfl, ?_⟩⟩⟩
      rw [decide_eq_false hm]
      exact q _ (sA.trans s3)
end
section
variable {P : Program} {w : World} {K : PySem.W.Frag} {mg : Str → Option Value} {base : Heap}
theorem ok__law_joined (S : Src K mg "_law_joined" s__law_joined) (T : Tx P K mg) (C__law_distinct : Cal P w K mg base CX0 1 "_law_distinct" ["_law_words"] spDist) (C_Lexicon_MU_orU : CalM P w K mg base CX0 8 (He.ga K "Lexicon") "__or__" ["self", "other"] (spLOr K)) (C_Lexicon_MU_andU : CalM P w K mg base CX0 8 (He.ga K "Lexicon") "__and__" ["self", "other"] (spLAnd K)) (C__law_is : Cal P w K mg base CX0 5 "_law_is" ["_law_lexicon", "_law_forms_here"] (spIs K)) (C_Lexicon_MU_initU : CalID P w K mg base (L2.CX P w) 6 (He.ga K "Lexicon") ["self", "version", "words"] (.ref (He.dflAt ("Lexicon", some "__init__") 0 K)) (spLex K)) (C_Lexicon_MU_eqU : CalM P w K mg base CX0 1 (He.ga K "Lexicon") "__eq__" ["self", "other"] (spLEq K)) (C__law_finds : Cal P w K mg base CX0 8 "_law_finds" ["_law_lexicon", "_law_forms_here", "_law_number", "_law_word"] (spFinds K))  : Cal P w K mg base CX0 9 "_law_joined" ["_law_lexicons", "_law_forms_here", "_law_number", "_law_rows"] (spJoin K) := by
  refine S.cal sc__law_joined bn__law_joined (fun vs H Q E h => ?_) (fun f cdv A outer s H vs Q E hr h => ?_)
  · first | (obtain ⟨rfl, _⟩ := h; rfl) | (obtain ⟨_, rfl, _⟩ := h; rfl) | (obtain ⟨_, _, rfl, _⟩ := h; rfl) | (obtain ⟨_, _, _, rfl, _⟩ := h; rfl) | (obtain ⟨_, _, _, _, rfl, _⟩ := h; rfl) | (obtain ⟨_, _, _, _, _, rfl, _⟩ := h; rfl) | (obtain ⟨_, _, _, _, _, _, rfl, _⟩ := h; rfl) | (obtain ⟨_, _, _, _, _, _, _, rfl, _⟩ := h; rfl) | (obtain ⟨_, _, _, _, _, _, _, _, rfl, _⟩ := h; rfl) | (obtain ⟨_, _, _, _, _, _, _, _, _, rfl, _⟩ := h; rfl)
  · skip
    obtain ⟨f_Lexicon_MU_orU, fd_Lexicon_MU_orU, m_Lexicon_MU_orU, b_Lexicon_MU_orU, G_Lexicon_MU_orU⟩ := C_Lexicon_MU_orU.ex
    obtain ⟨f_Lexicon_MU_andU, fd_Lexicon_MU_andU, m_Lexicon_MU_andU, b_Lexicon_MU_andU, G_Lexicon_MU_andU⟩ := C_Lexicon_MU_andU.ex
    obtain ⟨f_Lexicon_MU_eqU, fd_Lexicon_MU_eqU, m_Lexicon_MU_eqU, b_Lexicon_MU_eqU, G_Lexicon_MU_eqU⟩ := C_Lexicon_MU_eqU.ex
    refine ⟨_, (pss_cons (ps_set (i := 4) sc__law_joined.nd rfl (Or.inl rfl) (pe_ix Fx.ix_L (pv 0) pe_int (fun _ _ => rfl)))
        (pss_cons (ps_set (i := 5) sc__law_joined.nd rfl (Or.inl rfl) (pe_ix Fx.ix_L (pv 0) pe_int (fun _ _ => rfl)))
        (pss_cons (ps_set (i := 6) sc__law_joined.nd rfl (Or.inl rfl) (Fx.pe_cal C__law_distinct (hr.mono (by decide)) pass0 (Fx.pa_c (pe_op op_cat (pe_ix Fx.ix_L (pv 1) pe_int (fun _ _ => rfl)) (pe_ix Fx.ix_L (pv 1) pe_int (fun _ _ => rfl))) pa_nil)))
        (pss_cons (ps_setLc (i := 7) (own := [("_law_form", 11)]) rfl sc__law_joined.nd rfl rfl (sw_true rfl rfl rfl (by decide +kernel)) (pi_list (pe_ix Fx.ix_L (pv 1) pe_int (fun _ _ => rfl))) (blkOk_by (N := N__law_joined) (sc := defScope s__law_joined) (by decide +kernel)) (fun _ _ _ _ _ => (pg_name (i := 11) sc__law_joined.nd rfl (Or.inl rfl))) (fun _ _ _ _ _ => (pts_one (pt_cmpR Fx.in_S (pv 11) (pe_ix Fx.ix_L (pv 1) pe_int (fun _ _ => rfl)) rfl))) (fun _ _ _ _ _ => (pv 11)))
        (pss_cons (ps_set (i := 8) sc__law_joined.nd rfl (Or.inl rfl) (pe_op (Fx.bin_O rfl C_Lexicon_MU_orU T.sf_Lexicon (hr.mono (by decide)) pass0) (pv 4) (pv 5)))
        (pss_cons (ps_set (i := 9) sc__law_joined.nd rfl (Or.inl rfl) (pe_op (Fx.bin_O rfl C_Lexicon_MU_andU T.sf_Lexicon (hr.mono (by decide)) pass0) (pv 4) (pv 5)))
        (pss_cons (ps_if (PW.pt (pw_or (pt_not (pt_val (Fx.pe_cal C__law_is (hr.mono (by decide)) pass0 (Fx.pa_c (pv 8) (Fx.pa_c (pv 6) pa_nil))))) (pw_or (pt_not (pt_val (Fx.pe_cal C__law_is (hr.mono (by decide)) pass0 (Fx.pa_c (pv 9) (Fx.pa_c (pv 7) pa_nil))))) (pw_or1 (pt_cmpR (Fx.ne_O C_Lexicon_MU_eqU T.ne_Lexicon (hr.mono (by decide)) pass0) (pv 8) (Fx.pe_mk C_Lexicon_MU_initU.full (hr.mono (by decide)) T.g_Lexicon Fx.passX (Fx.pa_c (pv 2) (Fx.pa_c (pe_op op_cat (pe_ix Fx.ix_L (pv 3) pe_int (fun _ _ => rfl)) (pe_ix Fx.ix_L (pv 3) pe_int (fun _ _ => rfl))) pa_nil))) (nomark _)))))) (pss_one (ps_ret pe_bl)) pss_nil)
        (pss_cons (ps_if (PW.pt (pw_or (pt_cmpR op_ne (pe_cmpR (Fx.op_eqOwn C_Lexicon_MU_eqU (hr.mono (by decide)) pass0) (pv 4) (pv 5) (nomark _)) (pe_cmpR (Fx.eq_LL hr.units) (pe_ix Fx.ix_L (pv 1) pe_int (fun _ _ => rfl)) (pe_ix Fx.ix_L (pv 1) pe_int (fun _ _ => rfl)) (nomark _)) (nomark _)) (pw_or1 (pt_cmpR op_ne (pe_cmpR (Fx.ne_O C_Lexicon_MU_eqU T.ne_Lexicon (hr.mono (by decide)) pass0) (pv 4) (pv 5) (nomark _)) (pe_cmpR (Fx.ne_LL hr.units) (pe_ix Fx.ix_L (pv 1) pe_int (fun _ _ => rfl)) (pe_ix Fx.ix_L (pv 1) pe_int (fun _ _ => rfl)) (nomark _)) (nomark _))))) (pss_one (ps_ret pe_bl)) pss_nil)
        (pss_cons (ps_for PassesOwn.never rfl (pi_list (pe_op op_cat (pe_ix Fx.ix_L (pv 3) pe_int (fun _ _ => rfl)) (pe_ix Fx.ix_L (pv 3) pe_int (fun _ _ => rfl)))) (pg_name (i := 10) sc__law_joined.nd rfl (Or.inl rfl)) (pss_one (ps_if (PW.pt (pw_or (pt_not (pt_val (Fx.pe_cal C__law_finds (hr.mono (by decide)) pass0 (Fx.pa_c (pv 8) (Fx.pa_c (pv 6) (Fx.pa_c (pv 2) (Fx.pa_c (pv 10) pa_nil))))))) (pw_or1 (pt_not (pt_val (Fx.pe_cal C__law_finds (hr.mono (by decide)) pass0 (Fx.pa_c (pv 9) (Fx.pa_c (pv 7) (Fx.pa_c (pv 2) (Fx.pa_c (pv 10) pa_nil)))))))))) (pss_one (ps_ret pe_bl)) pss_nil)))
        (pss_one (ps_ret (pe_and (Fx.pe_cal C__law_is (hr.mono (by decide)) pass0 (Fx.pa_c (pv 4) (Fx.pa_c (pe_ix Fx.ix_L (pv 1) pe_int (fun _ _ => rfl)) pa_nil))) (pe_one (Fx.pe_cal C__law_is (hr.mono (by decide)) pass0 (Fx.pa_c (pv 5) (Fx.pa_c (pe_ix Fx.ix_L (pv 1) pe_int (fun _ _ => rfl)) pa_nil)))))))))))))))), ?_⟩
    obtain ⟨pr, r0, r1, t, l, l', rfl, h2, em, hr, h0, h1, hw, hw', ll, ll', o1, o2, q⟩ := h
    refine seqI fun K1 k1 => ?_
    walk_at "rd"
    refine ⟨_, h2.hl, _, rfl, k1 _ _ ?_⟩
    clear k1
    refine seqI fun K1 k1 => ?_
    walk_at "rd"
    refine ⟨_, h2.hl, _, rfl, k1 _ _ ?_⟩
    clear k1
    refine seqI fun K1 k1 => ?_
    walk_at "rd"
    have lf := o1.len
    have lg := o2.len
    refine ⟨_, h2.hf, _, rfl, _, h2.hf, _, rfl, _, rfl, _, rfl, _, h2.hp, _, h2.hq, ?_, ?_⟩
    · rw [List.length_map, List.length_map]
      exact sz (by omega)
    intro p1 n1
    generalize e_p1 : upd H p1 _ = H1
    have s1 := new_s n1 e_p1
    have g1 := new_h e_p1
    clear e_p1
    try (first | replace h2 := s1 _ _ h2 | replace h2 := h2.same s1 | replace h2 := h2.then s1 | replace h2 := h2.trans s1)
    try (first | replace h0 := s1 _ _ h0 | replace h0 := h0.same s1 | replace h0 := h0.then s1 | replace h0 := h0.trans s1)
    try (first | replace h1 := s1 _ _ h1 | replace h1 := h1.same s1 | replace h1 := h1.then s1 | replace h1 := h1.trans s1)
    try (first | replace hr := s1 _ _ hr | replace hr := hr.same s1 | replace hr := hr.then s1 | replace hr := hr.trans s1)
    refine ⟨_, t.fs ++ t.gs, rfl, by rw [g1, ms, ms, ms, List.map_append], by rw [List.length_append]; omega, fun pe es H2 s2 de ne he => k1 _ _ ?_⟩
    clear k1
    try (first | replace h2 := s2 _ _ h2 | replace h2 := h2.same s2 | replace h2 := h2.then s2 | replace h2 := h2.trans s2)
    try (first | replace h0 := s2 _ _ h0 | replace h0 := h0.same s2 | replace h0 := h0.then s2 | replace h0 := h0.trans s2)
    try (first | replace h1 := s2 _ _ h1 | replace h1 := h1.same s2 | replace h1 := h1.then s2 | replace h1 := h1.trans s2)
    try (first | replace hr := s2 _ _ hr | replace hr := hr.same s2 | replace hr := hr.then s2 | replace hr := hr.trans s2)
    try (first | replace g1 := s2 _ _ g1 | replace g1 := g1.same s2 | replace g1 := g1.then s2 | replace g1 := g1.trans s2)
    replace s1 := s1.trans s2
    refine seqI fun K1 k1 => ?_
    refine ⟨_, rfl, t.pf, 0, _, rfl, rfl, h2.hf, _, rfl, t.p, rfl, ⟨_, .inl (.inl h2.hp)⟩, fun D nD => ?_⟩
    have hF : ∀ xs, H2 t.p = some (.lst xs) → True := fun _ _ => trivial
    refine lc_list (K := K) (a := t.p) (xs := ms t.fs) (fun i H3 => H3 = upd H2 D (.lst (ms ((t.fs.take i).filter fun f => decide (f ∈ t.gs))))) rfl (fun i H3 _ e => ?_) ?_ ?_
    · rw [e]
      exact .inl (.inl (same_new nD _ _ h2.hp))
    · rintro i y H3 hy rfl
      have s3 := same_new (o := .lst (ms ((t.fs.take i).filter fun f => decide (f ∈ t.gs)))) nD
      have hi := (List.getElem?_eq_some_iff.mp hy).1
      rw [List.length_map] at hi
      rw [List.getElem?_map, List.getElem?_eq_getElem hi] at hy
      have ey : y = .str t.fs[i] := (Option.some.inj hy).symm
      subst ey
      have tk : List.take (i + 1) t.fs = List.take i t.fs ++ [t.fs[i]] := by
        rw [List.take_add_one, List.getElem?_eq_getElem hi]
        rfl
      refine ⟨rfl, ?_⟩
      walk_at "rd"
      refine ⟨_, s3 _ _ h2.hf, _, rfl, t.q, rfl, t.gs, .inl (s3 _ _ h2.hq), ite_i (fun hm => ?_) (fun hm => ?_)⟩
      · refine ⟨?_, ?_⟩
        · rw [List.length_map]
          have := List.length_filter_le (fun f => decide (f ∈ t.gs)) (List.take i t.fs)
          rw [List.length_take] at this
          exact Nat.lt_of_lt_of_le (by omega : _ < 1000) (by decide)
        · rw [upd_upd, tk, List.filter_append, List.filter_cons_of_pos (by simpa using hm)]
          simp [ms]
      · rw [tk, List.filter_append, List.filter_cons_of_neg (by simpa using hm)]
        simp
    rintro H3 e3
    rw [List.length_map, List.take_length] at e3
    have s3 : Same H2 H3 := e3 ▸ same_new nD
    have hb : H3 D = some (.lst (ms (t.fs.filter fun f => decide (f ∈ t.gs)))) := by rw [e3, upd_same]
    clear e3 hF
    refine k1 _ _ ?_
    clear k1
    try (first | replace h2 := s3 _ _ h2 | replace h2 := h2.same s3 | replace h2 := h2.then s3 | replace h2 := h2.trans s3)
    try (first | replace h0 := s3 _ _ h0 | replace h0 := h0.same s3 | replace h0 := h0.then s3 | replace h0 := h0.trans s3)
    try (first | replace h1 := s3 _ _ h1 | replace h1 := h1.same s3 | replace h1 := h1.then s3 | replace h1 := h1.trans s3)
    try (first | replace hr := s3 _ _ hr | replace hr := hr.same s3 | replace hr := hr.then s3 | replace hr := hr.trans s3)
    try (first | replace s1 := s3 _ _ s1 | replace s1 := s1.same s3 | replace s1 := s1.then s3 | replace s1 := s1.trans s3)
    try (first | replace he := s3 _ _ he | replace he := he.same s3 | replace he := he.then s3 | replace he := he.trans s3)
    try (first | replace hb := s3 _ _ hb | replace hb := hb.same s3 | replace hb := hb.then s3 | replace hb := hb.trans s3)
    refine seqI fun K1 k1 => ?_
    walk_at "rd"
    obtain ⟨dx, fl, hx⟩ := h2.hx.ins
    obtain ⟨dy, gl, hy⟩ := h2.hy.ins
    have hy2 : Lex K H3 t.y t.n t.gs t.us := em ▸ h2.hy
    refine ⟨dx, dy, fl, hx, gl, hy, _, _, _, _, _, _, _, rfl, h2.hx, hy2, by omega, fun z H4 hs ts s4 Lz hm => ⟨_, rfl, k1 _ _ ?_⟩⟩
    clear k1
    try (first | replace h2 := s4 _ _ h2 | replace h2 := h2.same s4 | replace h2 := h2.then s4 | replace h2 := h2.trans s4)
    try (first | replace h0 := s4 _ _ h0 | replace h0 := h0.same s4 | replace h0 := h0.then s4 | replace h0 := h0.trans s4)
    try (first | replace h1 := s4 _ _ h1 | replace h1 := h1.same s4 | replace h1 := h1.then s4 | replace h1 := h1.trans s4)
    try (first | replace hr := s4 _ _ hr | replace hr := hr.same s4 | replace hr := hr.then s4 | replace hr := hr.trans s4)
    try (first | replace s1 := s4 _ _ s1 | replace s1 := s1.same s4 | replace s1 := s1.then s4 | replace s1 := s1.trans s4)
    try (first | replace he := s4 _ _ he | replace he := he.same s4 | replace he := he.then s4 | replace he := he.trans s4)
    try (first | replace hb := s4 _ _ hb | replace hb := hb.same s4 | replace hb := hb.then s4 | replace hb := hb.trans s4)
    try (first | replace Lz := s4 _ _ Lz | replace Lz := Lz.same s4 | replace Lz := Lz.then s4 | replace Lz := Lz.trans s4)
    try (first | replace hy2 := s4 _ _ hy2 | replace hy2 := hy2.same s4 | replace hy2 := hy2.then s4 | replace hy2 := hy2.trans s4)
    try (first | replace hx := s4 _ _ hx | replace hx := hx.same s4 | replace hx := hx.then s4 | replace hx := hx.trans s4)
    try (first | replace hy := s4 _ _ hy | replace hy := hy.same s4 | replace hy := hy.then s4 | replace hy := hy.trans s4)
    refine seqI fun K1 k1 => ?_
    walk_at "rd"
    refine ⟨dx, dy, fl, hx, gl, hy, _, _, _, _, _, _, _, _, rfl, h2.hx, hy2, fun z2 H5 hs2 ts2 s5 Lz2 hm2 => ⟨_, rfl, k1 _ _ ?_⟩⟩
    clear k1
    try (first | replace h2 := s5 _ _ h2 | replace h2 := h2.same s5 | replace h2 := h2.then s5 | replace h2 := h2.trans s5)
    try (first | replace h0 := s5 _ _ h0 | replace h0 := h0.same s5 | replace h0 := h0.then s5 | replace h0 := h0.trans s5)
    try (first | replace h1 := s5 _ _ h1 | replace h1 := h1.same s5 | replace h1 := h1.then s5 | replace h1 := h1.trans s5)
    try (first | replace hr := s5 _ _ hr | replace hr := hr.same s5 | replace hr := hr.then s5 | replace hr := hr.trans s5)
    try (first | replace s1 := s5 _ _ s1 | replace s1 := s1.same s5 | replace s1 := s1.then s5 | replace s1 := s1.trans s5)
    try (first | replace he := s5 _ _ he | replace he := he.same s5 | replace he := he.then s5 | replace he := he.trans s5)
    try (first | replace hb := s5 _ _ hb | replace hb := hb.same s5 | replace hb := hb.then s5 | replace hb := hb.trans s5)
    try (first | replace Lz := s5 _ _ Lz | replace Lz := Lz.same s5 | replace Lz := Lz.then s5 | replace Lz := Lz.trans s5)
    try (first | replace hy2 := s5 _ _ hy2 | replace hy2 := hy2.same s5 | replace hy2 := hy2.then s5 | replace hy2 := hy2.trans s5)
    try (first | replace hx := s5 _ _ hx | replace hx := hx.same s5 | replace hx := hx.then s5 | replace hx := hx.trans s5)
    try (first | replace hy := s5 _ _ hy | replace hy := hy.same s5 | replace hy := hy.then s5 | replace hy := hy.trans s5)
    try (first | replace Lz2 := s5 _ _ Lz2 | replace Lz2 := Lz2.same s5 | replace Lz2 := Lz2.then s5 | replace Lz2 := Lz2.trans s5)
    have e1 : hs = es := sorted_uniq Lz.1.so de.1 Lz.1.nd de.2.1 fun f => by rw [hm f, de.2.2 f, List.mem_append]
    have e2 : hs2 = t.fs.filter fun f => decide (f ∈ t.gs) := pw_uniq (sorted_pw Lz2.1.so) ((sorted_pw o1.1.so).filter _) ((List.perm_ext_iff_of_nodup Lz2.1.nd (o1.1.nd.filter _)).mpr fun f => by rw [hm2 f, List.mem_filter, decide_eq_true_eq])
    subst e1
    rw [← e2] at hb
    clear s2 s3 s4 s5 nD hx hy
    refine seqI fun K1 k1 => ?_
    walk_at "rd"
    refine ⟨z, pe, _, _, _, rfl, Lz, he, fun H6 s6 => ⟨_, rfl, ?_⟩⟩
    rw [if_neg (by decide)]
    try (first | replace h2 := s6 _ _ h2 | replace h2 := h2.same s6 | replace h2 := h2.then s6 | replace h2 := h2.trans s6)
    try (first | replace h0 := s6 _ _ h0 | replace h0 := h0.same s6 | replace h0 := h0.then s6 | replace h0 := h0.trans s6)
    try (first | replace h1 := s6 _ _ h1 | replace h1 := h1.same s6 | replace h1 := h1.then s6 | replace h1 := h1.trans s6)
    try (first | replace hr := s6 _ _ hr | replace hr := hr.same s6 | replace hr := hr.then s6 | replace hr := hr.trans s6)
    try (first | replace s1 := s6 _ _ s1 | replace s1 := s1.same s6 | replace s1 := s1.then s6 | replace s1 := s1.trans s6)
    try (first | replace he := s6 _ _ he | replace he := he.same s6 | replace he := he.then s6 | replace he := he.trans s6)
    try (first | replace hb := s6 _ _ hb | replace hb := hb.same s6 | replace hb := hb.then s6 | replace hb := hb.trans s6)
    try (first | replace Lz := s6 _ _ Lz | replace Lz := Lz.same s6 | replace Lz := Lz.then s6 | replace Lz := Lz.trans s6)
    try (first | replace Lz2 := s6 _ _ Lz2 | replace Lz2 := Lz2.same s6 | replace Lz2 := Lz2.then s6 | replace Lz2 := Lz2.trans s6)
    try (first | replace hy2 := s6 _ _ hy2 | replace hy2 := hy2.same s6 | replace hy2 := hy2.then s6 | replace hy2 := hy2.trans s6)
    refine ⟨z2, D, _, _, _, rfl, Lz2, hb, fun H7 s7 => ⟨_, rfl, ?_⟩⟩
    rw [if_neg (by decide)]
    try (first | replace h2 := s7 _ _ h2 | replace h2 := h2.same s7 | replace h2 := h2.then s7 | replace h2 := h2.trans s7)
    try (first | replace h0 := s7 _ _ h0 | replace h0 := h0.same s7 | replace h0 := h0.then s7 | replace h0 := h0.trans s7)
    try (first | replace h1 := s7 _ _ h1 | replace h1 := h1.same s7 | replace h1 := h1.then s7 | replace h1 := h1.trans s7)
    try (first | replace hr := s7 _ _ hr | replace hr := hr.same s7 | replace hr := hr.then s7 | replace hr := hr.trans s7)
    try (first | replace s1 := s7 _ _ s1 | replace s1 := s1.same s7 | replace s1 := s1.then s7 | replace s1 := s1.trans s7)
    try (first | replace he := s7 _ _ he | replace he := he.same s7 | replace he := he.then s7 | replace he := he.trans s7)
    try (first | replace hb := s7 _ _ hb | replace hb := hb.same s7 | replace hb := hb.then s7 | replace hb := hb.trans s7)
    try (first | replace Lz := s7 _ _ Lz | replace Lz := Lz.same s7 | replace Lz := Lz.then s7 | replace Lz := Lz.trans s7)
    try (first | replace Lz2 := s7 _ _ Lz2 | replace Lz2 := Lz2.same s7 | replace Lz2 := Lz2.then s7 | replace Lz2 := Lz2.trans s7)
    try (first | replace hy2 := s7 _ _ hy2 | replace hy2 := hy2.same s7 | replace hy2 := hy2.then s7 | replace hy2 := hy2.trans s7)
    refine ⟨_, hr, _, rfl, _, hr, _, rfl, r1, rfl, r0, rfl, _, h1, _, h0, ?_, ?_⟩
    · rw [List.length_map, List.length_map]
      exact sz (by omega)
    intro p8 m8
    generalize e_p8 : upd H7 p8 _ = H8
    have s8 := new_s m8 e_p8
    have g8 := new_h e_p8
    clear e_p8
    try (first | replace h2 := s8 _ _ h2 | replace h2 := h2.same s8 | replace h2 := h2.then s8 | replace h2 := h2.trans s8)
    try (first | replace h0 := s8 _ _ h0 | replace h0 := h0.same s8 | replace h0 := h0.then s8 | replace h0 := h0.trans s8)
    try (first | replace h1 := s8 _ _ h1 | replace h1 := h1.same s8 | replace h1 := h1.then s8 | replace h1 := h1.trans s8)
    try (first | replace hr := s8 _ _ hr | replace hr := hr.same s8 | replace hr := hr.then s8 | replace hr := hr.trans s8)
    try (first | replace s1 := s8 _ _ s1 | replace s1 := s1.same s8 | replace s1 := s1.then s8 | replace s1 := s1.trans s8)
    try (first | replace he := s8 _ _ he | replace he := he.same s8 | replace he := he.then s8 | replace he := he.trans s8)
    try (first | replace hb := s8 _ _ hb | replace hb := hb.same s8 | replace hb := hb.then s8 | replace hb := hb.trans s8)
    try (first | replace Lz := s8 _ _ Lz | replace Lz := Lz.same s8 | replace Lz := Lz.then s8 | replace Lz := Lz.trans s8)
    try (first | replace Lz2 := s8 _ _ Lz2 | replace Lz2 := Lz2.same s8 | replace Lz2 := Lz2.then s8 | replace Lz2 := Lz2.trans s8)
    try (first | replace hy2 := s8 _ _ hy2 | replace hy2 := hy2.same s8 | replace hy2 := hy2.then s8 | replace hy2 := hy2.trans s8)
    refine mk_lex (zs := l' ++ l) o1.1.n1 o1.1.n3 (.inl (.inl (.inl (by rw [g8]; simp [ms])))) ?_ ?_ fun x1 H9 f1 w1 s9 o9 L9 => ?_
    · rw [List.length_append]
      omega
    · intro z hz
      rcases List.mem_append.mp hz with hz | hz
      · exact hw' z hz
      · exact hw z hz
    try (first | replace h2 := s9 _ _ h2 | replace h2 := h2.same s9 | replace h2 := h2.then s9 | replace h2 := h2.trans s9)
    try (first | replace h0 := s9 _ _ h0 | replace h0 := h0.same s9 | replace h0 := h0.then s9 | replace h0 := h0.trans s9)
    try (first | replace h1 := s9 _ _ h1 | replace h1 := h1.same s9 | replace h1 := h1.then s9 | replace h1 := h1.trans s9)
    try (first | replace hr := s9 _ _ hr | replace hr := hr.same s9 | replace hr := hr.then s9 | replace hr := hr.trans s9)
    try (first | replace s1 := s9 _ _ s1 | replace s1 := s1.same s9 | replace s1 := s1.then s9 | replace s1 := s1.trans s9)
    try (first | replace he := s9 _ _ he | replace he := he.same s9 | replace he := he.then s9 | replace he := he.trans s9)
    try (first | replace hb := s9 _ _ hb | replace hb := hb.same s9 | replace hb := hb.then s9 | replace hb := hb.trans s9)
    try (first | replace Lz := s9 _ _ Lz | replace Lz := Lz.same s9 | replace Lz := Lz.then s9 | replace Lz := Lz.trans s9)
    try (first | replace Lz2 := s9 _ _ Lz2 | replace Lz2 := Lz2.same s9 | replace Lz2 := Lz2.then s9 | replace Lz2 := Lz2.trans s9)
    try (first | replace hy2 := s9 _ _ hy2 | replace hy2 := hy2.same s9 | replace hy2 := hy2.then s9 | replace hy2 := hy2.trans s9)
    try (first | replace g8 := s9 _ _ g8 | replace g8 := g8.same s9 | replace g8 := g8.then s9 | replace g8 := g8.trans s9)
    obtain ⟨d1, q1, i1⟩ := Lz.ins
    obtain ⟨d2, q2, i2⟩ := L9.ins
    refine ⟨d1, d2, q1, i1, q2, i2, _, _, _, _, _, _, _, _, rfl, Lz, L9, _, rfl, ?_⟩
    have e3 : hs = f1 := sorted_uniq Lz.1.so o9.1.so Lz.1.nd o9.1.nd fun f => by rw [hm f, o9.2 f, List.map_append, List.mem_append, o1.2 f, o2.2 f]; exact or_comm
    rw [decide_eq_true rfl, decide_eq_true e3, if_neg (by decide)]
    refine k1 _ _ ?_
    clear k1 s6 s7 s8 s9 m8 L9 o9 i1 i2 g8
    refine seqI fun K1 k1 => ?_
    walk_at "rd"
    obtain ⟨dx, fl2, hx⟩ := h2.hx.ins
    obtain ⟨dy, gl2, hy⟩ := h2.hy.ins
    refine ⟨dx, dy, fl2, hx, gl2, hy, _, _, _, _, _, _, _, _, rfl, h2.hx, h2.hy, _, rfl, _, h2.hf, _, rfl, _, h2.hf, _, rfl, t.p, rfl, t.q, rfl, _, h2.hp, _, h2.hq, o1.1.isF, o2.1.isF, ?_⟩
    have ed : (decide (t.n = t.m) && decide (t.fs = t.gs)) = decide (ms t.fs = ms t.gs) := by
      rw [em, decide_eq_true rfl, Bool.true_and]
      exact (decide_eq_decide.mpr ms_inj).symm
    rw [if_pos ed]
    refine ⟨dx, dy, fl2, hx, gl2, hy, _, _, _, _, _, _, _, _, rfl, h2.hx, h2.hy, _, rfl, _, h2.hf, _, rfl, _, h2.hf, _, rfl, t.p, rfl, t.q, rfl, _, h2.hp, _, h2.hq, o1.1.isF, o2.1.isF, ?_⟩
    rw [if_pos (by rw [ed])]
    refine k1 _ _ ?_
    clear k1
    refine seqI fun K1 k1 => ?_
    refine forI fun R kR => ?_
    walk_at "rd"
    refine ⟨_, hr, _, rfl, _, hr, _, rfl, r0, rfl, r1, rfl, _, h0, _, h1, ?_, ?_⟩
    · rw [List.length_map, List.length_map]
      exact sz (by omega)
    intro pa ma
    generalize e_pa : upd H9 pa _ = H10
    have s10 := new_s ma e_pa
    have ha := new_h e_pa
    clear e_pa
    try (first | replace h2 := s10 _ _ h2 | replace h2 := h2.same s10 | replace h2 := h2.then s10 | replace h2 := h2.trans s10)
    try (first | replace h0 := s10 _ _ h0 | replace h0 := h0.same s10 | replace h0 := h0.then s10 | replace h0 := h0.trans s10)
    try (first | replace h1 := s10 _ _ h1 | replace h1 := h1.same s10 | replace h1 := h1.then s10 | replace h1 := h1.trans s10)
    try (first | replace hr := s10 _ _ hr | replace hr := hr.same s10 | replace hr := hr.then s10 | replace hr := hr.trans s10)
    try (first | replace s1 := s10 _ _ s1 | replace s1 := s1.same s10 | replace s1 := s1.then s10 | replace s1 := s1.trans s10)
    try (first | replace he := s10 _ _ he | replace he := he.same s10 | replace he := he.then s10 | replace he := he.trans s10)
    try (first | replace hb := s10 _ _ hb | replace hb := hb.same s10 | replace hb := hb.then s10 | replace hb := hb.trans s10)
    try (first | replace Lz := s10 _ _ Lz | replace Lz := Lz.same s10 | replace Lz := Lz.then s10 | replace Lz := Lz.trans s10)
    try (first | replace Lz2 := s10 _ _ Lz2 | replace Lz2 := Lz2.same s10 | replace Lz2 := Lz2.then s10 | replace Lz2 := Lz2.trans s10)
    try (first | replace hy2 := s10 _ _ hy2 | replace hy2 := hy2.same s10 | replace hy2 := hy2.then s10 | replace hy2 := hy2.trans s10)
    refine ⟨⟨_, .inl (.inl ha)⟩, kR _ _ ?_⟩
    clear kR
    refine for_list (K := K) (a := pa) (xs := ms l ++ ms l') (fun i σ H' => ∃ v9, σ = [some (.ref t.pl), some (.ref t.pf), some (.int t.n), some (.ref pr), some (.ref t.x), some (.ref t.y), some (.ref pe), some (.ref D), some (.ref z), some (.ref z2), v9, none] ∧ Same H10 H') ⟨none, rfl, Same.refl _⟩ (fun i σ H' _ ⟨_, _, e⟩ => .inl (.inl (e _ _ ha))) ?_ ?_
    · rintro i x σ H11 hx ⟨v9, rfl, s11⟩
      have hm := List.mem_of_getElem? hx
      obtain ⟨y, rfl, wy, ly⟩ : ∃ y, x = .str y ∧ isW y = true ∧ y.length ≤ 1000 := by
        rcases List.mem_append.mp hm with hm | hm
        · obtain ⟨y, hy, rfl⟩ := List.mem_map.mp hm
          exact ⟨y, rfl, hw y hy⟩
        · obtain ⟨y, hy, rfl⟩ := List.mem_map.mp hm
          exact ⟨y, rfl, hw' y hy⟩
      clear k1
      try (first | replace h2 := s11 _ _ h2 | replace h2 := h2.same s11 | replace h2 := h2.then s11 | replace h2 := h2.trans s11)
      try (first | replace h0 := s11 _ _ h0 | replace h0 := h0.same s11 | replace h0 := h0.then s11 | replace h0 := h0.trans s11)
      try (first | replace h1 := s11 _ _ h1 | replace h1 := h1.same s11 | replace h1 := h1.then s11 | replace h1 := h1.trans s11)
      try (first | replace hr := s11 _ _ hr | replace hr := hr.same s11 | replace hr := hr.then s11 | replace hr := hr.trans s11)
      try (first | replace s1 := s11 _ _ s1 | replace s1 := s1.same s11 | replace s1 := s1.then s11 | replace s1 := s1.trans s11)
      try (first | replace he := s11 _ _ he | replace he := he.same s11 | replace he := he.then s11 | replace he := he.trans s11)
      try (first | replace hb := s11 _ _ hb | replace hb := hb.same s11 | replace hb := hb.then s11 | replace hb := hb.trans s11)
      try (first | replace Lz := s11 _ _ Lz | replace Lz := Lz.same s11 | replace Lz := Lz.then s11 | replace Lz := Lz.trans s11)
      try (first | replace Lz2 := s11 _ _ Lz2 | replace Lz2 := Lz2.same s11 | replace Lz2 := Lz2.then s11 | replace Lz2 := Lz2.trans s11)
      try (first | replace hy2 := s11 _ _ hy2 | replace hy2 := hy2.same s11 | replace hy2 := hy2.then s11 | replace hy2 := hy2.trans s11)
      try (first | replace ha := s11 _ _ ha | replace ha := ha.same s11 | replace ha := ha.then s11 | replace ha := ha.trans s11)
      walk_at "rd"
      refine ⟨z, pe, _, _, _, y, rfl, Lz, he, wy, ly, fun H12 s12 => ⟨_, rfl, ?_⟩⟩
      rw [if_neg (by decide)]
      try (first | replace h2 := s12 _ _ h2 | replace h2 := h2.same s12 | replace h2 := h2.then s12 | replace h2 := h2.trans s12)
      try (first | replace h0 := s12 _ _ h0 | replace h0 := h0.same s12 | replace h0 := h0.then s12 | replace h0 := h0.trans s12)
      try (first | replace h1 := s12 _ _ h1 | replace h1 := h1.same s12 | replace h1 := h1.then s12 | replace h1 := h1.trans s12)
      try (first | replace hr := s12 _ _ hr | replace hr := hr.same s12 | replace hr := hr.then s12 | replace hr := hr.trans s12)
      try (first | replace s1 := s12 _ _ s1 | replace s1 := s1.same s12 | replace s1 := s1.then s12 | replace s1 := s1.trans s12)
      try (first | replace he := s12 _ _ he | replace he := he.same s12 | replace he := he.then s12 | replace he := he.trans s12)
      try (first | replace hb := s12 _ _ hb | replace hb := hb.same s12 | replace hb := hb.then s12 | replace hb := hb.trans s12)
      try (first | replace Lz := s12 _ _ Lz | replace Lz := Lz.same s12 | replace Lz := Lz.then s12 | replace Lz := Lz.trans s12)
      try (first | replace Lz2 := s12 _ _ Lz2 | replace Lz2 := Lz2.same s12 | replace Lz2 := Lz2.then s12 | replace Lz2 := Lz2.trans s12)
      try (first | replace hy2 := s12 _ _ hy2 | replace hy2 := hy2.same s12 | replace hy2 := hy2.then s12 | replace hy2 := hy2.trans s12)
      try (first | replace ha := s12 _ _ ha | replace ha := ha.same s12 | replace ha := ha.then s12 | replace ha := ha.trans s12)
      refine ⟨z2, D, _, _, _, y, rfl, Lz2, hb, wy, ly, fun H13 s13 => ⟨_, rfl, ?_⟩⟩
      rw [if_neg (by decide)]
      exact (s11.trans s12).trans s13
    rintro σ H11 ⟨v9, rfl, s11⟩
    refine k1 _ _ ?_
    clear k1
    try (first | replace h2 := s11 _ _ h2 | replace h2 := h2.same s11 | replace h2 := h2.then s11 | replace h2 := h2.trans s11)
    try (first | replace h0 := s11 _ _ h0 | replace h0 := h0.same s11 | replace h0 := h0.then s11 | replace h0 := h0.trans s11)
    try (first | replace h1 := s11 _ _ h1 | replace h1 := h1.same s11 | replace h1 := h1.then s11 | replace h1 := h1.trans s11)
    try (first | replace hr := s11 _ _ hr | replace hr := hr.same s11 | replace hr := hr.then s11 | replace hr := hr.trans s11)
    try (first | replace s1 := s11 _ _ s1 | replace s1 := s1.same s11 | replace s1 := s1.then s11 | replace s1 := s1.trans s11)
    try (first | replace he := s11 _ _ he | replace he := he.same s11 | replace he := he.then s11 | replace he := he.trans s11)
    try (first | replace hb := s11 _ _ hb | replace hb := hb.same s11 | replace hb := hb.then s11 | replace hb := hb.trans s11)
    try (first | replace Lz := s11 _ _ Lz | replace Lz := Lz.same s11 | replace Lz := Lz.then s11 | replace Lz := Lz.trans s11)
    try (first | replace Lz2 := s11 _ _ Lz2 | replace Lz2 := Lz2.same s11 | replace Lz2 := Lz2.then s11 | replace Lz2 := Lz2.trans s11)
    try (first | replace hy2 := s11 _ _ hy2 | replace hy2 := hy2.same s11 | replace hy2 := hy2.then s11 | replace hy2 := hy2.trans s11)
    try (first | replace ha := s11 _ _ ha | replace ha := ha.same s11 | replace ha := ha.then s11 | replace ha := ha.trans s11)
    walk_at "rd"
    refine ⟨_, h2.hf, _, rfl, t.x, t.p, _, _, _, rfl, h2.hx, h2.hp, fun H12 s12 => ⟨_, rfl, ?_⟩⟩
    rw [if_pos rfl]
    try (first | replace h2 := s12 _ _ h2 | replace h2 := h2.same s12 | replace h2 := h2.then s12 | replace h2 := h2.trans s12)
    try (first | replace h0 := s12 _ _ h0 | replace h0 := h0.same s12 | replace h0 := h0.then s12 | replace h0 := h0.trans s12)
    try (first | replace h1 := s12 _ _ h1 | replace h1 := h1.same s12 | replace h1 := h1.then s12 | replace h1 := h1.trans s12)
    try (first | replace hr := s12 _ _ hr | replace hr := hr.same s12 | replace hr := hr.then s12 | replace hr := hr.trans s12)
    try (first | replace s1 := s12 _ _ s1 | replace s1 := s1.same s12 | replace s1 := s1.then s12 | replace s1 := s1.trans s12)
    try (first | replace he := s12 _ _ he | replace he := he.same s12 | replace he := he.then s12 | replace he := he.trans s12)
    try (first | replace hb := s12 _ _ hb | replace hb := hb.same s12 | replace hb := hb.then s12 | replace hb := hb.trans s12)
    try (first | replace Lz := s12 _ _ Lz | replace Lz := Lz.same s12 | replace Lz := Lz.then s12 | replace Lz := Lz.trans s12)
    try (first | replace Lz2 := s12 _ _ Lz2 | replace Lz2 := Lz2.same s12 | replace Lz2 := Lz2.then s12 | replace Lz2 := Lz2.trans s12)
    try (first | replace hy2 := s12 _ _ hy2 | replace hy2 := hy2.same s12 | replace hy2 := hy2.then s12 | replace hy2 := hy2.trans s12)
    try (first | replace ha := s12 _ _ ha | replace ha := ha.same s12 | replace ha := ha.then s12 | replace ha := ha.trans s12)
    exact ⟨_, h2.hf, _, rfl, t.y, t.q, _, _, _, rfl, h2.hy, h2.hq, fun H13 s13 => q _ (s1.trans s13)⟩
end
section
variable {P : Program} {w : World} {K : PySem.W.Frag} {mg : Str → Option Value} {base : Heap}
theorem ok__law_forms (S : Src K mg "_law_forms" s__law_forms) (T : Tx P K mg) (C__law_cut : Cal P w K mg base CX0 2 "_law_cut" ["_law_version", "_law_word"] spLCut) (C__law_distinct : Cal P w K mg base CX0 1 "_law_distinct" ["_law_words"] spDist)  : Cal P w K mg base CX0 3 "_law_forms" ["_law_number", "_law_row_here"] spForms := by
  refine S.cal sc__law_forms bn__law_forms (fun vs H Q E h => ?_) (fun f cdv A outer s H vs Q E hr h => ?_)
  · first | (obtain ⟨rfl, _⟩ := h; rfl) | (obtain ⟨_, rfl, _⟩ := h; rfl) | (obtain ⟨_, _, rfl, _⟩ := h; rfl) | (obtain ⟨_, _, _, rfl, _⟩ := h; rfl) | (obtain ⟨_, _, _, _, rfl, _⟩ := h; rfl) | (obtain ⟨_, _, _, _, _, rfl, _⟩ := h; rfl) | (obtain ⟨_, _, _, _, _, _, rfl, _⟩ := h; rfl) | (obtain ⟨_, _, _, _, _, _, _, rfl, _⟩ := h; rfl) | (obtain ⟨_, _, _, _, _, _, _, _, rfl, _⟩ := h; rfl) | (obtain ⟨_, _, _, _, _, _, _, _, _, rfl, _⟩ := h; rfl)
  · skip
    refine ⟨_, (pss_one (ps_ret (Fx.pe_cal C__law_distinct (hr.mono (by decide)) pass0 (Fx.pa_c (pe_lc (own := [("_law_word", 2)]) rfl sc__law_forms.nd (pi_list (pv 1)) (blkOk_by (N := N__law_forms) (sc := defScope s__law_forms) (by decide +kernel)) (fun _ _ _ _ _ => (pg_name (i := 2) sc__law_forms.nd rfl (Or.inl rfl))) (fun _ _ _ _ _ => pts_nil) (fun _ _ _ _ _ => (Fx.pe_cal C__law_cut (hr.mono (by decide)) pass0 (Fx.pa_c (pv 0) (Fx.pa_c (pv 2) pa_nil))))) pa_nil)))), ?_⟩
    obtain ⟨n, p, l, rfl, n1, n3, hp, hl, hw, q⟩ := h
    walk_at "rd"
    refine ⟨_, rfl, p, rfl, ⟨_, .inl (.inl hp)⟩, fun D nD => ?_⟩
    refine lc_list (K := K) (a := p) (xs := ms l) (fun i H2 => H2 D = some (.lst (ms ((l.take i).map (cutT n)))) ∧ Same H H2) ⟨upd_same, same_new nD⟩ (fun i H2 _ ⟨_, s⟩ => .inl (.inl (s _ _ hp))) ?_ ?_
    · rintro i y H2 hy ⟨hD, s2⟩
      have hi := (List.getElem?_eq_some_iff.mp hy).1
      rw [List.length_map] at hi
      rw [List.getElem?_map, List.getElem?_eq_getElem hi] at hy
      have ey : y = .str l[i] := (Option.some.inj hy).symm
      subst ey
      obtain ⟨wz, lz⟩ := hw _ (List.getElem_mem hi)
      refine ⟨rfl, ?_⟩
      walk_at "rd"
      refine ⟨n, _, rfl, n1, n3, lz, wz, fun H3 s3 => ⟨_, s3 _ _ hD, ?_, ?_, Same.put (s2.trans s3) nD⟩⟩
      · rw [List.length_map, List.length_map, List.length_take]
        exact Nat.lt_of_lt_of_le (by omega : _ < 1000) (by decide)
      · have et : List.take (i + 1) l = List.take i l ++ [l[i]] := by
          rw [List.take_add_one, List.getElem?_eq_getElem hi]
          rfl
        rw [et, ms, ms, List.map_append, List.map_append]
        rfl
    rintro H2 ⟨hD, s2⟩
    rw [List.length_map, List.take_length] at hD
    exact ⟨D, l.map (cutT n), rfl, hD, by rw [List.length_map]; exact hl, fun q1 ys H3 s3 hd nq hq => q q1 ys H3 (s2.trans s3) hd (s2.free nq) hq⟩
end
section
variable {P : Program} {w : World} {K : PySem.W.Frag} {mg : Str → Option Value} {base : Heap}
theorem ok__law_built (S : Src K mg "_law_built" s__law_built) (T : Tx P K mg) (C_Lexicon_MU_initU : CalID P w K mg base (L2.CX P w) 6 (He.ga K "Lexicon") ["self", "version", "words"] (.ref (He.dflAt ("Lexicon", some "__init__") 0 K)) (spLex K)) (C_Lexicon_MU_eqU : CalM P w K mg base CX0 1 (He.ga K "Lexicon") "__eq__" ["self", "other"] (spLEq K))  : Cal P w K mg base CX0 8 "_law_built" ["_law_number", "_law_row_here", "_law_way"] (spBuilt K) := by
  refine S.cal sc__law_built bn__law_built (fun vs H Q E h => ?_) (fun f cdv A outer s H vs Q E hr h => ?_)
  · first | (obtain ⟨rfl, _⟩ := h; rfl) | (obtain ⟨_, rfl, _⟩ := h; rfl) | (obtain ⟨_, _, rfl, _⟩ := h; rfl) | (obtain ⟨_, _, _, rfl, _⟩ := h; rfl) | (obtain ⟨_, _, _, _, rfl, _⟩ := h; rfl) | (obtain ⟨_, _, _, _, _, rfl, _⟩ := h; rfl) | (obtain ⟨_, _, _, _, _, _, rfl, _⟩ := h; rfl) | (obtain ⟨_, _, _, _, _, _, _, rfl, _⟩ := h; rfl) | (obtain ⟨_, _, _, _, _, _, _, _, rfl, _⟩ := h; rfl) | (obtain ⟨_, _, _, _, _, _, _, _, _, rfl, _⟩ := h; rfl)
  · skip
    obtain ⟨f_Lexicon_MU_eqU, fd_Lexicon_MU_eqU, m_Lexicon_MU_eqU, b_Lexicon_MU_eqU, G_Lexicon_MU_eqU⟩ := C_Lexicon_MU_eqU.ex
    refine ⟨_, (pss_cons (ps_set (i := 3) sc__law_built.nd rfl (Or.inl rfl) (Fx.pe_cTy Fx.list_L T.b_list (by decide +kernel) (Fx.pa_c (pv 1) pa_nil)))
        (pss_cons (ps_set (i := 4) sc__law_built.nd rfl (Or.inl rfl) (Fx.pe_mk C_Lexicon_MU_initU.full (hr.mono (by decide)) T.g_Lexicon Fx.passX (Fx.pa_c (pv 0) (Fx.pa_c (pv 3) pa_nil))))
        (pss_cons (ps_if (pt_cmpR op_eq (pv 2) pe_int (nomark _)) (pss_one (ps_set (i := 4) sc__law_built.nd rfl (Or.inl rfl) (Fx.pe_mk C_Lexicon_MU_initU.full (hr.mono (by decide)) T.g_Lexicon Fx.passX (Fx.pa_c (pv 0) (Fx.pa_c (Fx.pe_cTy Fx.tup_L T.b_tuple (by decide +kernel) (Fx.pa_c (pv 1) pa_nil)) pa_nil))))) pss_nil)
        (pss_cons (ps_if (pt_cmpR (Fx.ne_LL hr.units) (pv 3) (pv 1) (nomark _)) (pss_one (ps_ret pe_non)) pss_nil)
        (pss_cons (ps_expr (pe_bm PySem.F.plainAttrs_list PySem.F.slot_list_insert PySem.F.type_list_insert Fx.mt_ins (pv 3) (Fx.pa_c pe_int (Fx.pa_c pe_str pa_nil))))
        (pss_cons (ps_expr (pe_bm PySem.F.plainAttrs_list PySem.F.slot_list_append PySem.F.type_list_append mt_append (pv 3) (Fx.pa_c pe_str pa_nil)))
        (pss_cons (ps_if (PW.pt (pw_or (pt_not (pt_cmpR (Fx.op_eqOwn C_Lexicon_MU_eqU (hr.mono (by decide)) pass0) (pv 4) (Fx.pe_mk C_Lexicon_MU_initU.full (hr.mono (by decide)) T.g_Lexicon Fx.passX (Fx.pa_c (pv 0) (Fx.pa_c (pe_op op_cat (pe_revL (pv 1)) (pv 1)) pa_nil))) (nomark _))) (pw_or1 (pt_cmpR (Fx.ne_O C_Lexicon_MU_eqU T.ne_Lexicon (hr.mono (by decide)) pass0) (pv 4) (Fx.pe_mk C_Lexicon_MU_initU.full (hr.mono (by decide)) T.g_Lexicon Fx.passX (Fx.pa_c (pv 0) (Fx.pa_c (pe_op op_cat (pv 1) (pv 1)) pa_nil))) (nomark _))))) (pss_one (ps_ret pe_non)) pss_nil)
        (pss_one (ps_ret (pv 4)))))))))), ?_⟩
    obtain ⟨n, p, l, w, rfl, n1, n3, hp, hl, hw, q⟩ := h
    refine seqI fun K1 k1 => ?_
    walk_at "rd"
    refine ⟨_, hp, fun pg ng => k1 _ _ ?_⟩
    clear k1
    have s1 := same_new (o := .lst (ms l)) ng
    have hg : (upd H pg (.lst (ms l))) pg = some (.lst (ms l)) := upd_same
    generalize upd H pg (.lst (ms l)) = H1 at s1 hg
    refine seqI fun K1 k1 => ?_
    walk_at "rd"
    refine mk_lex n1 n3 (.inl (.inl (.inl hg))) (by omega) hw fun x H2 fs ws s2 o2 L2 => k1 _ _ ?_
    clear k1
    refine seqI fun K1 k1 => ?_
    have go : ∀ (y : Addr) (H3 : Hp) (gs us : List Str), Same H1 H3 → lexOf n l gs us → Lex K H3 y n gs us → K1 [some (V.int n), some (V.ref p), some (V.int w), some (V.ref pg), some (V.ref y)] H3 := by
      intro y H3 gs us s3 o3 L3
      refine k1 _ _ ?_
      clear k1
      have sA := s1.trans s3
      have hg3 := s3 _ _ hg
      have hp3 := sA _ _ hp
      refine seqI fun K1 k1 => ?_
      walk_at "rd"
      refine ⟨_, hg3, _, hp3, isF_ms hw, isF_ms hw, ?_⟩
      rw [if_pos rfl]
      refine k1 _ _ ?_
      clear k1
      refine seqI fun K1 k1 => ?_
      walk_at "rd"
      refine ⟨tyL hg3, _, hg3, ?_, by decide, by decide, k1 _ _ ?_⟩
      · rw [List.length_map]
        exact Nat.lt_of_lt_of_le (by omega : _ < 1000) (by decide)
      clear k1
      have sB : Same H (upd H3 pg (.lst (List.take (Int.toNat 0) (ms l) ++ [V.str "zebra"] ++ List.drop (Int.toNat 0) (ms l)))) := Same.put sA ng
      have L4 : Lex K (upd H3 pg (.lst (List.take (Int.toNat 0) (ms l) ++ [V.str "zebra"] ++ List.drop (Int.toNat 0) (ms l)))) y n gs us := L3.put hg3
      have hg4 : (upd H3 pg (.lst (List.take (Int.toNat 0) (ms l) ++ [V.str "zebra"] ++ List.drop (Int.toNat 0) (ms l)))) pg = some (.lst (V.str "zebra" :: ms l)) := upd_same
      generalize upd H3 pg (.lst (List.take (Int.toNat 0) (ms l) ++ [V.str "zebra"] ++ List.drop (Int.toNat 0) (ms l))) = H4 at sB L4 hg4
      clear sA s3 hg3 hp3 L3
      refine seqI fun K1 k1 => ?_
      walk_at "rd"
      refine ⟨tyL hg4, _, hg4, ?_, k1 _ _ ?_⟩
      · rw [List.length_cons, List.length_map]
        exact Nat.lt_of_lt_of_le (by omega : _ < 1000) (by decide)
      clear k1
      have sC : Same H (upd H4 pg (.lst (V.str "zebra" :: ms l ++ [V.str "e"]))) := Same.put sB ng
      have L5 : Lex K (upd H4 pg (.lst (V.str "zebra" :: ms l ++ [V.str "e"]))) y n gs us := L4.put hg4
      generalize upd H4 pg (.lst (V.str "zebra" :: ms l ++ [V.str "e"])) = H5 at sC L5
      clear sB L4 hg4
      refine seqI fun K1 k1 => ?_
      walk_at "rd"
      have hp5 := sC _ _ hp
      refine ⟨_, .inl (.inl hp5), fun q1 m1 => ⟨_, same_new m1 _ _ hp5, ?_, fun q2 m2 => ?_⟩⟩
      · rw [List.length_reverse, List.length_map]
        exact sz (by omega)
      have t2 := (same_new (o := .lst (ms l).reverse) m1).trans (same_new (o := .lst ((ms l).reverse ++ ms l)) m2)
      refine mk_lex (zs := l.reverse ++ l) n1 n3 (.inl (.inl (.inl ?_))) ?_ ?_ fun x1 H6 f1 w1 s6 o6 L6 => ?_
      · rw [upd_same, ms, ms, List.map_append, List.map_reverse]
      · rw [List.length_append, List.length_reverse]
        omega
      · intro z hz
        rcases List.mem_append.mp hz with hz | hz
        · exact hw z (List.mem_reverse.mp hz)
        · exact hw z hz
      have sD := t2.trans s6
      have L5' := L5.same sD
      obtain ⟨d1, g1, i1⟩ := L5'.ins
      obtain ⟨d2, g2, i2⟩ := L6.ins
      refine ⟨d1, d2, g1, i1, g2, i2, _, _, _, _, _, _, _, _, rfl, L5', L6, _, rfl, ?_⟩
      have e1 : gs = f1 := o3.uniq o6 fun z => by simp
      rw [decide_eq_true rfl, decide_eq_true e1, if_neg (by decide)]
      have hp6 := sD _ _ hp5
      refine ⟨_, hp6, _, hp6, ?_, fun q3 m3 => ?_⟩
      · rw [List.length_map]
        exact sz (by omega)
      refine mk_lex (zs := l ++ l) n1 n3 (.inl (.inl (.inl ?_))) ?_ ?_ fun x2 H7 f2 w2 s7 o7 L7 => ?_
      · rw [upd_same, ms, ms, List.map_append]
      · rw [List.length_append]
        omega
      · intro z hz
        rcases List.mem_append.mp hz with hz | hz
        · exact hw z hz
        · exact hw z hz
      have sE := (same_new m3).trans s7
      have L6' := L5'.same sE
      obtain ⟨d3, g3, i3⟩ := L6'.ins
      obtain ⟨d4, g4, i4⟩ := L7.ins
      refine ⟨d3, d4, g3, i3, g4, i4, _, _, _, _, _, _, _, _, rfl, L6', L7, _, rfl, ?_⟩
      have e2 : gs = f2 := o3.uniq o7 fun z => by simp
      rw [decide_eq_true rfl, decide_eq_true e2, if_neg (by decide)]
      refine k1 _ _ ?_
      walk_at "rd"
      exact q _ _ _ _ ((sC.trans sD).trans sE) o3 L6'
    clear k1
    refine ifI fun A B ka kb => ?_
    walk_at "rd"
    refine ite_i (fun e => ka _ ?_) (fun e => kb _ ?_)
    · walk_at "rd"
      refine ⟨_, s2 _ _ (s1 _ _ hp), fun pt nt => mk_lex n1 n3 (.inr (.inl (.inl upd_same))) (by omega) hw fun x H3 fs ws s3 o3 L3 => go _ _ _ _ (s2.trans ((same_new nt).trans s3)) o3 L3⟩
    · walk_at "rd"
      exact go _ _ _ _ s2 o2 L2
end
section
variable {P : Program} {w : World} {K : PySem.W.Frag} {mg : Str → Option Value} {base : Heap}
theorem ok__law_all_found (S : Src K mg "_law_all_found" s__law_all_found) (T : Tx P K mg) (C__law_finds : Cal P w K mg base CX0 8 "_law_finds" ["_law_lexicon", "_law_forms_here", "_law_number", "_law_word"] (spFinds K)) (C__law_odd : Cal P w K mg base CX0 2 "_law_odd" ["_law_bag_here"] (spOdd K)) (C_Lexicon_M_find : CalM P w K mg base CX0 6 (He.ga K "Lexicon") "find" ["self", "word"] (spLFind K)) (C_Lexicon_MU_containsU : CalM P w K mg base CX0 7 (He.ga K "Lexicon") "__contains__" ["self", "word"] (spLIn K))  : Cal P w K mg base CX0 9 "_law_all_found" ["_law_bag_here", "_law_lexicons", "_law_forms_here", "_law_numbers", "_law_asked"] (spAll K) := by
  refine S.cal sc__law_all_found bn__law_all_found (fun vs H Q E h => ?_) (fun f cdv A outer s H vs Q E hr h => ?_)
  · first | (obtain ⟨rfl, _⟩ := h; rfl) | (obtain ⟨_, rfl, _⟩ := h; rfl) | (obtain ⟨_, _, rfl, _⟩ := h; rfl) | (obtain ⟨_, _, _, rfl, _⟩ := h; rfl) | (obtain ⟨_, _, _, _, rfl, _⟩ := h; rfl) | (obtain ⟨_, _, _, _, _, rfl, _⟩ := h; rfl) | (obtain ⟨_, _, _, _, _, _, rfl, _⟩ := h; rfl) | (obtain ⟨_, _, _, _, _, _, _, rfl, _⟩ := h; rfl) | (obtain ⟨_, _, _, _, _, _, _, _, rfl, _⟩ := h; rfl) | (obtain ⟨_, _, _, _, _, _, _, _, _, rfl, _⟩ := h; rfl)
  · skip
    obtain ⟨f_Lexicon_M_find, fd_Lexicon_M_find, m_Lexicon_M_find, b_Lexicon_M_find, G_Lexicon_M_find⟩ := C_Lexicon_M_find.ex
    obtain ⟨f_Lexicon_MU_containsU, fd_Lexicon_MU_containsU, m_Lexicon_MU_containsU, b_Lexicon_MU_containsU, G_Lexicon_MU_containsU⟩ := C_Lexicon_MU_containsU.ex
    refine ⟨_, (pss_cons (ps_for PassesOwn.never rfl (pi_list (pv 4)) (pg_name (i := 5) sc__law_all_found.nd rfl (Or.inl rfl)) (pss_cons (ps_if (pt_not (pt_val (Fx.pe_cal C__law_finds (hr.mono (by decide)) pass0 (Fx.pa_c (pe_ix Fx.ix_L (pv 1) pe_int (fun _ _ => rfl)) (Fx.pa_c (pe_ix Fx.ix_L (pv 2) pe_int (fun _ _ => rfl)) (Fx.pa_c (pe_ix Fx.ix_L (pv 3) pe_int (fun _ _ => rfl)) (Fx.pa_c (pv 5) pa_nil))))))) (pss_one (ps_ret pe_bl)) pss_nil)
        (pss_one (ps_if (pt_not (pt_val (Fx.pe_cal C__law_finds (hr.mono (by decide)) pass0 (Fx.pa_c (pe_ix Fx.ix_L (pv 1) pe_int (fun _ _ => rfl)) (Fx.pa_c (pe_ix Fx.ix_L (pv 2) pe_int (fun _ _ => rfl)) (Fx.pa_c (pe_ix Fx.ix_L (pv 3) pe_int (fun _ _ => rfl)) (Fx.pa_c (pv 5) pa_nil))))))) (pss_one (ps_ret pe_bl)) pss_nil))))
        (pss_cons (ps_for PassesOwn.never rfl (pi_list (pe_lst (Fx.pa_c (Fx.pe_cal C__law_odd (hr.mono (by decide)) pass0 (Fx.pa_c (pv 0) pa_nil)) (Fx.pa_c (Fx.pe_cal C__law_odd (hr.mono (by decide)) pass0 (Fx.pa_c (pv 0) pa_nil)) pa_nil)))) (pg_name (i := 6) sc__law_all_found.nd rfl (Or.inl rfl)) (pss_one (ps_if (PW.pt (pw_or (pt_cmpR op_notNon (pe_meth (pe_ix Fx.ix_L (pv 1) pe_int (fun _ _ => rfl)) T.cl_Lexicon m_Lexicon_M_find G_Lexicon_M_find (hr.mono (by decide)) b_Lexicon_M_find .nil pass0 (Fx.pa_c (pv 6) pa_nil)) pe_non (nomark _)) (pw_or1 (pt_cmpR op_noBo (pe_cmpR (Fx.in_O C_Lexicon_MU_containsU (hr.mono (by decide)) pass0) (pv 6) (pe_ix Fx.ix_L (pv 1) pe_int (fun _ _ => rfl)) rfl) pe_bl (nomark _))))) (pss_one (ps_ret pe_bl)) pss_nil)))
        (pss_one (ps_ret pe_bl)))), ?_⟩
    obtain ⟨b, pn, pa, t, l, rfl, hB, h2, hn, ha, hw, q⟩ := h
    refine seqI fun K1 k1 => ?_
    refine ⟨_, rfl, pa, rfl, ⟨_, .inl (.inl ha)⟩, for_list (K := K) (a := pa) (xs := ms l) (fun i σ H' => ∃ v5, σ = [some (.ref b), some (.ref t.pl), some (.ref t.pf), some (.ref pn), some (.ref pa), v5, none] ∧ Same H H') ⟨none, rfl, Same.refl _⟩ (fun i σ H' _ ⟨_, _, e⟩ => .inl (.inl (e _ _ ha))) ?_ ?_⟩
    · rintro i y σ H1 hy ⟨v5, rfl, s1⟩
      obtain ⟨z, hz, rfl⟩ := List.mem_map.mp (List.mem_of_getElem? hy)
      obtain ⟨wz, lz⟩ := hw z hz
      clear k1
      have h21 := h2.same s1
      walk_at "rd"
      refine ⟨_, h21.hl, _, rfl, _, h21.hf, _, rfl, _, s1 _ _ hn, _, rfl, _, _, _, _, _, _, rfl, h21.hx, h21.hp, wz, lz, fun H3 s3 => ⟨_, rfl, ?_⟩⟩
      rw [if_neg (by decide)]
      have h23 := h21.same s3
      refine ⟨_, h23.hl, _, rfl, _, h23.hf, _, rfl, _, s3 _ _ (s1 _ _ hn), _, rfl, _, _, _, _, _, _, rfl, h23.hy, h23.hq, wz, lz, fun H4 s4 => ⟨_, rfl, ?_⟩⟩
      rw [if_neg (by decide)]
      exact (s1.trans s3).trans s4
    rintro σ H1 ⟨v5, rfl, s1⟩
    refine k1 _ _ ?_
    clear k1
    have h21 := h2.same s1
    have B1 := hB.same s1
    refine seqI fun K1 k1 => ?_
    refine forI fun R kR => ?_
    walk_at "rd"
    refine ⟨b, rfl, B1, fun a1 d1 H2 kp2 bw1 _ _ => ⟨b, rfl, kp2.bag, fun a2 d2 H3 kp3 bw2 _ _ => ⟨by decide, fun pt nt => ⟨⟨_, .inl (.inl upd_same)⟩, kR _ _ ?_⟩⟩⟩⟩
    clear kR
    have s4 := same_new (o := .lst [a1, a2]) nt
    have h24 := ((h21.kp B1 kp2).kp kp2.bag kp3).same s4
    replace bw1 := (bw1.kp kp2.bag kp3).same s4
    replace bw2 := bw2.same s4
    have hpt : (upd H3 pt (.lst [a1, a2])) pt = some (.lst [a1, a2]) := upd_same
    have kp := ((Kp.same hB s1).trans (kp2.trans kp3)).then s4
    generalize upd H3 pt (.lst [a1, a2]) = H4 at s4 h24 bw1 bw2 hpt kp
    clear s4 kp2 kp3 h21
    refine for_list (K := K) (a := pt) (xs := [a1, a2]) (fun i σ H' => ∃ v6, σ = [some (.ref b), some (.ref t.pl), some (.ref t.pf), some (.ref pn), some (.ref pa), v5, v6] ∧ Same H4 H') ⟨none, rfl, Same.refl _⟩ (fun i σ H' _ ⟨_, _, e⟩ => .inl (.inl (e _ _ hpt))) ?_ ?_
    · rintro i y σ H5 hy ⟨v6, rfl, s5⟩
      clear k1
      have bw : BadW H5 y := by
        have := List.mem_of_getElem? hy
        simp only [List.mem_cons, List.not_mem_nil, or_false] at this
        rcases this with rfl | rfl
        · exact bw1.same s5
        · exact bw2.same s5
      have h25 := h24.same s5
      walk_at "rd"
      obtain ⟨ok, dx, r, r', hx, _⟩ := id h25.hx
      refine ⟨_, h25.hl, _, rfl, _, rfl, _, _, hx, rfl, _, _, _, _, _, rfl, h25.hx, .inr ⟨bw, fun H6 s6 => ?_⟩⟩
      show ite (V.non = V.non) _ _
      rw [if_pos rfl]
      have h26 := h25.same s6
      obtain ⟨dy, fl, hy6⟩ := h26.hy.ins
      refine ⟨_, h26.hl, _, rfl, _, rfl, _, _, hy6, _, _, _, _, _, rfl, h26.hy, .inr ⟨bw.same s6, fun H7 s7 => ⟨_, rfl, ?_⟩⟩⟩
      rw [if_pos rfl]
      exact (s5.trans s6).trans s7
    rintro σ H5 ⟨v6, rfl, s5⟩
    refine k1 _ _ ?_
    walk_at "rd"
    exact q _ (kp.then s5)
end
section
variable {P : Program} {w : World} {K : PySem.W.Frag} {mg : Str → Option Value} {base : Heap}
theorem ok_law {f0 : Addr} {fd : FuncData} (F : FunD K "law" "law" (defArgs s_law) (defBody s_law) (defScope s_law) [] [] f0 fd) (T : Tx P K mg) (C__law_bag : Cal P w K mg base CX0 1 "_law_bag" ["_law_script"] (spBag K)) (C__law_pick : Cal P w K mg base CX0 1 "_law_pick" ["_law_bag_here", "_law_many"] spPick) (C__law_row : Cal P w K mg base CX0 3 "_law_row" ["_law_bag_here", "_law_pool"] spRow) (C__law_built : Cal P w K mg base CX0 8 "_law_built" ["_law_number", "_law_row_here", "_law_way"] (spBuilt K)) (C__law_forms : Cal P w K mg base CX0 3 "_law_forms" ["_law_number", "_law_row_here"] spForms) (C__law_typed : Cal P w K mg base CX0 2 "_law_typed" ["_law_bag_here", "_law_pool"] spTyped) (C__law_all_found : Cal P w K mg base CX0 9 "_law_all_found" ["_law_bag_here", "_law_lexicons", "_law_forms_here", "_law_numbers", "_law_asked"] (spAll K)) (C__law_is : Cal P w K mg base CX0 5 "_law_is" ["_law_lexicon", "_law_forms_here"] (spIs K)) (C__law_joined : Cal P w K mg base CX0 9 "_law_joined" ["_law_lexicons", "_law_forms_here", "_law_number", "_law_rows"] (spJoin K)) (C_Lexicon_MU_eqU : CalM P w K mg base CX0 1 (He.ga K "Lexicon") "__eq__" ["self", "other"] (spLEq K)) (C_Lexicon_MU_initU : CalID P w K mg base (L2.CX P w) 6 (He.ga K "Lexicon") ["self", "version", "words"] (.ref (He.dflAt ("Lexicon", some "__init__") 0 K)) (spLex K)) (C__law_refusals : CalG P w K mg base CX0 9 "_law_refusals" ["_law_bag_here", "_law_number", "_law_row_here"] (spRef K))  : FnG P w K mg base CX0 10 f0 fd ["_law_script"] (spLaw K) := by
  refine lawG F sc_law (fun vs H Q E h => ?_) (fun f cdv A outer s H vs Q E hG hr h => ?_)
  · first | (obtain ⟨rfl, _⟩ := h; rfl) | (obtain ⟨_, rfl, _⟩ := h; rfl) | (obtain ⟨_, _, rfl, _⟩ := h; rfl) | (obtain ⟨_, _, _, rfl, _⟩ := h; rfl) | (obtain ⟨_, _, _, _, rfl, _⟩ := h; rfl) | (obtain ⟨_, _, _, _, _, rfl, _⟩ := h; rfl) | (obtain ⟨_, _, _, _, _, _, rfl, _⟩ := h; rfl) | (obtain ⟨_, _, _, _, _, _, _, rfl, _⟩ := h; rfl) | (obtain ⟨_, _, _, _, _, _, _, _, rfl, _⟩ := h; rfl) | (obtain ⟨_, _, _, _, _, _, _, _, _, rfl, _⟩ := h; rfl)
  · skip
    obtain ⟨f_Lexicon_MU_eqU, fd_Lexicon_MU_eqU, m_Lexicon_MU_eqU, b_Lexicon_MU_eqU, G_Lexicon_MU_eqU⟩ := C_Lexicon_MU_eqU.ex
    refine ⟨_, (pss_cons (ps_set (i := 1) sc_law.nd rfl (Or.inl rfl) (Fx.pe_cal C__law_bag (hr.mono (by decide)) pass0 (Fx.pa_c (pv 0) pa_nil)))
        (pss_cons (ps_set (i := 2) sc_law.nd rfl (Or.inl rfl) (pe_lst (Fx.pa_c (pe_op op_add pe_int (Fx.pe_cal C__law_pick (hr.mono (by decide)) pass0 (Fx.pa_c (pv 1) (Fx.pa_c pe_int pa_nil)))) pa_nil)))
        (pss_cons (ps_expr (pe_bm PySem.F.plainAttrs_list PySem.F.slot_list_append PySem.F.type_list_append mt_append (pv 2) (Fx.pa_c (pe_ix Fx.ix_L (pe_lst (Fx.pa_c (pe_ix Fx.ix_L (pv 2) pe_int (fun _ _ => rfl)) (Fx.pa_c (pe_ix Fx.ix_L (pv 2) pe_int (fun _ _ => rfl)) (Fx.pa_c (pe_op op_add pe_int (Fx.pe_cal C__law_pick (hr.mono (by decide)) pass0 (Fx.pa_c (pv 1) (Fx.pa_c pe_int pa_nil)))) pa_nil)))) (Fx.pe_cal C__law_pick (hr.mono (by decide)) pass0 (Fx.pa_c (pv 1) (Fx.pa_c pe_int pa_nil))) (fun _ _ => rfl)) pa_nil)))
        (pss_cons (ps_set (i := 3) sc_law.nd rfl (Or.inl rfl) (pe_lst (Fx.pa_c (Fx.pe_cal C__law_row (hr.mono (by decide)) pass0 (Fx.pa_c (pv 1) (Fx.pa_c (pe_lst pa_nil) pa_nil))) pa_nil)))
        (pss_cons (ps_expr (pe_bm PySem.F.plainAttrs_list PySem.F.slot_list_append PySem.F.type_list_append mt_append (pv 3) (Fx.pa_c (Fx.pe_cal C__law_row (hr.mono (by decide)) pass0 (Fx.pa_c (pv 1) (Fx.pa_c (pe_ix Fx.ix_L (pv 3) pe_int (fun _ _ => rfl)) pa_nil))) pa_nil)))
        (pss_cons (ps_set (i := 4) sc_law.nd rfl (Or.inl rfl) (pe_lst (Fx.pa_c (Fx.pe_cal C__law_built (hr.mono (by decide)) pass0 (Fx.pa_c (pe_ix Fx.ix_L (pv 2) pe_int (fun _ _ => rfl)) (Fx.pa_c (pe_ix Fx.ix_L (pv 3) pe_int (fun _ _ => rfl)) (Fx.pa_c (Fx.pe_cal C__law_pick (hr.mono (by decide)) pass0 (Fx.pa_c (pv 1) (Fx.pa_c pe_int pa_nil))) pa_nil)))) (Fx.pa_c (Fx.pe_cal C__law_built (hr.mono (by decide)) pass0 (Fx.pa_c (pe_ix Fx.ix_L (pv 2) pe_int (fun _ _ => rfl)) (Fx.pa_c (pe_ix Fx.ix_L (pv 3) pe_int (fun _ _ => rfl)) (Fx.pa_c pe_int pa_nil)))) pa_nil))))
        (pss_cons (ps_if (PW.pt (pw_or (pt_cmpR op_isNon (pe_ix Fx.ix_L (pv 4) pe_int (fun _ _ => rfl)) pe_non (nomark _)) (pw_or1 (pt_cmpR op_isNon (pe_ix Fx.ix_L (pv 4) pe_int (fun _ _ => rfl)) pe_non (nomark _))))) (pss_one (ps_ret pe_bl)) pss_nil)
        (pss_cons (ps_set (i := 5) sc_law.nd rfl (Or.inl rfl) (pe_lst (Fx.pa_c (Fx.pe_cal C__law_forms (hr.mono (by decide)) pass0 (Fx.pa_c (pe_ix Fx.ix_L (pv 2) pe_int (fun _ _ => rfl)) (Fx.pa_c (pe_ix Fx.ix_L (pv 3) pe_int (fun _ _ => rfl)) pa_nil))) (Fx.pa_c (Fx.pe_cal C__law_forms (hr.mono (by decide)) pass0 (Fx.pa_c (pe_ix Fx.ix_L (pv 2) pe_int (fun _ _ => rfl)) (Fx.pa_c (pe_ix Fx.ix_L (pv 3) pe_int (fun _ _ => rfl)) pa_nil))) pa_nil))))
        (pss_cons (ps_set (i := 6) sc_law.nd rfl (Or.inl rfl) (pe_op op_cat (pe_op op_cat (pe_ix Fx.ix_L (pv 3) pe_int (fun _ _ => rfl)) (pe_ix Fx.ix_L (pv 3) pe_int (fun _ _ => rfl))) (pe_lst (Fx.pa_c (Fx.pe_cal C__law_typed (hr.mono (by decide)) pass0 (Fx.pa_c (pv 1) (Fx.pa_c (pe_ix Fx.ix_L (pv 3) pe_int (fun _ _ => rfl)) pa_nil))) (Fx.pa_c pe_str (Fx.pa_c pe_str (Fx.pa_c pe_str pa_nil)))))))
        (pss_cons (ps_if (pt_not (pt_val (Fx.pe_cal C__law_all_found (hr.mono (by decide)) pass0 (Fx.pa_c (pv 1) (Fx.pa_c (pv 4) (Fx.pa_c (pv 5) (Fx.pa_c (pv 2) (Fx.pa_c (pv 6) pa_nil)))))))) (pss_one (ps_ret pe_bl)) pss_nil)
        (pss_cons (ps_if (PW.pt (pw_or (pt_not (pt_val (Fx.pe_cal C__law_is (hr.mono (by decide)) pass0 (Fx.pa_c (pe_ix Fx.ix_L (pv 4) pe_int (fun _ _ => rfl)) (Fx.pa_c (pe_ix Fx.ix_L (pv 5) pe_int (fun _ _ => rfl)) pa_nil))))) (pw_or1 (pt_not (pt_val (Fx.pe_cal C__law_is (hr.mono (by decide)) pass0 (Fx.pa_c (pe_ix Fx.ix_L (pv 4) pe_int (fun _ _ => rfl)) (Fx.pa_c (pe_ix Fx.ix_L (pv 5) pe_int (fun _ _ => rfl)) pa_nil)))))))) (pss_one (ps_ret pe_bl)) pss_nil)
        (pss_cons (ps_if (PW.pt (pw_and (pt_cmpR op_eq (pe_ix Fx.ix_L (pv 2) pe_int (fun _ _ => rfl)) (pe_ix Fx.ix_L (pv 2) pe_int (fun _ _ => rfl)) (nomark _)) (pw_and1 (pt_not (pt_val (Fx.pe_cal C__law_joined (hr.mono (by decide)) pass0 (Fx.pa_c (pv 4) (Fx.pa_c (pv 5) (Fx.pa_c (pe_ix Fx.ix_L (pv 2) pe_int (fun _ _ => rfl)) (Fx.pa_c (pv 3) pa_nil)))))))))) (pss_one (ps_ret pe_bl)) pss_nil)
        (pss_cons (ps_if (PW.pt (pw_and (pt_cmpR op_ne (pe_ix Fx.ix_L (pv 2) pe_int (fun _ _ => rfl)) (pe_ix Fx.ix_L (pv 2) pe_int (fun _ _ => rfl)) (nomark _)) (pw_and1 (PW.pt (pw_or (pt_cmpR (Fx.op_eqOwn C_Lexicon_MU_eqU (hr.mono (by decide)) pass0) (pe_ix Fx.ix_L (pv 4) pe_int (fun _ _ => rfl)) (pe_ix Fx.ix_L (pv 4) pe_int (fun _ _ => rfl)) (nomark _)) (pw_or1 (pt_not (pt_cmpR (Fx.ne_O C_Lexicon_MU_eqU T.ne_Lexicon (hr.mono (by decide)) pass0) (pe_ix Fx.ix_L (pv 4) pe_int (fun _ _ => rfl)) (pe_ix Fx.ix_L (pv 4) pe_int (fun _ _ => rfl)) (nomark _))))))))) (pss_one (ps_ret pe_bl)) pss_nil)
        (pss_cons (ps_if (PW.pt (pw_or (pt_not (pt_val (Fx.pe_cal C__law_is (hr.mono (by decide)) pass0 (Fx.pa_c (Fx.pe_mkD C_Lexicon_MU_initU (hr.mono (by decide)) T.g_Lexicon Fx.passX (Fx.pa_c (pe_ix Fx.ix_L (pv 2) pe_int (fun _ _ => rfl)) pa_nil)) (Fx.pa_c (pe_lst pa_nil) pa_nil))))) (pw_or1 (pt_cmpR (Fx.ne_O C_Lexicon_MU_eqU T.ne_Lexicon (hr.mono (by decide)) pass0) (Fx.pe_mk C_Lexicon_MU_initU.full (hr.mono (by decide)) T.g_Lexicon Fx.passX (Fx.pa_c (pe_ix Fx.ix_L (pv 2) pe_int (fun _ _ => rfl)) (Fx.pa_c (pe_lst pa_nil) pa_nil))) (Fx.pe_mkD C_Lexicon_MU_initU (hr.mono (by decide)) T.g_Lexicon Fx.passX (Fx.pa_c (pe_ix Fx.ix_L (pv 2) pe_int (fun _ _ => rfl)) pa_nil)) (nomark _))))) (pss_one (ps_ret pe_bl)) pss_nil)
        (pss_cons (ps_if (pt_cmpR (Fx.op_eqOwn C_Lexicon_MU_eqU (hr.mono (by decide)) pass0) (Fx.pe_mkD C_Lexicon_MU_initU (hr.mono (by decide)) T.g_Lexicon Fx.passX (Fx.pa_c (pe_op op_add pe_int (pe_op op_mod (Fx.pe_cTy Fx.int_I T.b_int (by decide +kernel) (Fx.pa_c (pe_ix Fx.ix_L (pv 2) pe_int (fun _ _ => rfl)) pa_nil)) pe_int)) pa_nil)) (Fx.pe_mkD C_Lexicon_MU_initU (hr.mono (by decide)) T.g_Lexicon Fx.passX (Fx.pa_c (pe_ix Fx.ix_L (pv 2) pe_int (fun _ _ => rfl)) pa_nil)) (nomark _)) (pss_one (ps_ret pe_bl)) pss_nil)
        (pss_one (ps_ret (Fx.pe_calG C__law_refusals hG (hr.mono (by decide)) pass0 (Fx.pa_c (pv 1) (Fx.pa_c (pe_ix Fx.ix_L (pv 2) pe_int (fun _ _ => rfl)) (Fx.pa_c (pe_ix Fx.ix_L (pv 3) pe_int (fun _ _ => rfl)) pa_nil))))))))))))))))))))), ?_⟩
    obtain ⟨a, ns, rfl, hS, hlen, q⟩ := h
    refine seqI fun K1 k1 => ?_
    walk_at "rd"
    refine ⟨a, ns, rfl, hS, hlen, fun b H1 s1 n1 B1 => k1 _ _ ?_⟩
    clear k1 s1 n1
    refine seqI fun K1 k1 => ?_
    walk_at "rd"
    refine ⟨b, 3, rfl, B1, by decide, by decide, fun m H2 m0 m1 kp2 => ⟨m, rfl, by decide, ?_⟩⟩
    have B0 := kp2.bag
    have v1 : 1 ≤ 1 + m := by omega
    have v3 : 1 + m ≤ 3 := by omega
    generalize 1 + m = n at v1 v3
    clear kp2 B1 m0 m1
    intro pn nn
    generalize e_pn : upd H2 pn _ = H3
    have s3 := new_s nn e_pn
    have hn := new_h e_pn
    clear e_pn
    have kpN := Kp.same B0 s3
    have B2 := kpN.bag
    refine k1 _ _ ?_
    clear k1 s3
    refine seqI fun K1 k1 => ?_
    walk_at "rd"
    refine ⟨tyL hn, _, hn, _, rfl, _, hn, _, rfl, b, 3, rfl, B2, by decide, by decide, fun g H4 g0 g1 kp4 => ⟨g, rfl, by decide, ?_⟩⟩
    try (first | replace hn := Kp.lst kp4 B2 hn | replace hn := Kp.tup kp4 B2 hn | replace hn := Kp.ins kp4 B2 hn | replace hn := hn.kp B2 kp4 | replace hn := Kp.trans hn kp4)
    try (first | replace kpN := Kp.lst kp4 B2 kpN | replace kpN := Kp.tup kp4 B2 kpN | replace kpN := Kp.ins kp4 B2 kpN | replace kpN := kpN.kp B2 kp4 | replace kpN := Kp.trans kpN kp4)
    replace B2 := Kp.bag kp4
    intro qn mn
    generalize e_qn : upd H4 qn _ = H5
    have s5 := new_s mn e_qn
    have hq := new_h e_qn
    clear e_qn
    try (first | replace hn := s5 _ _ hn | replace hn := hn.same s5 | replace hn := hn.then s5 | replace hn := hn.trans s5)
    try (first | replace kpN := s5 _ _ kpN | replace kpN := kpN.same s5 | replace kpN := kpN.then s5 | replace kpN := kpN.trans s5)
    try (first | replace B2 := s5 _ _ B2 | replace B2 := B2.same s5 | replace B2 := B2.then s5 | replace B2 := B2.trans s5)
    refine ⟨b, 3, rfl, B2, by decide, by decide, fun g2 H6 g3 g4 kp6 => ⟨g2, rfl, _, kp6.lst B2 hq, ?_⟩⟩
    obtain ⟨n2, v21, v23, e2⟩ : ∃ n2, 1 ≤ n2 ∧ n2 ≤ 3 ∧ atI [V.int n, V.int n, V.int (1 + g)] g2 = some (.int n2) := by
      rcases (by omega : g2 = 0 ∨ g2 = 1 ∨ g2 = 2) with rfl | rfl | rfl
      · exact ⟨n, v1, v3, rfl⟩
      · exact ⟨n, v1, v3, rfl⟩
      · exact ⟨1 + g, by omega, by omega, rfl⟩
    try (first | replace hn := Kp.lst kp6 B2 hn | replace hn := Kp.tup kp6 B2 hn | replace hn := Kp.ins kp6 B2 hn | replace hn := hn.kp B2 kp6 | replace hn := Kp.trans hn kp6)
    try (first | replace kpN := Kp.lst kp6 B2 kpN | replace kpN := Kp.tup kp6 B2 kpN | replace kpN := Kp.ins kp6 B2 kpN | replace kpN := kpN.kp B2 kp6 | replace kpN := Kp.trans kpN kp6)
    try (first | replace hq := Kp.lst kp6 B2 hq | replace hq := Kp.tup kp6 B2 hq | replace hq := Kp.ins kp6 B2 hq | replace hq := hq.kp B2 kp6 | replace hq := Kp.trans hq kp6)
    replace B2 := Kp.bag kp6
    refine ⟨_, e2, _, hn, (show 1 < sizeLine by decide), k1 _ _ ?_⟩
    clear k1 hq e2 g0 g1 g3 g4 kp4 kp6 mn s5
    replace kpN := Kp.put (o := .lst ([V.int n] ++ [V.int n2])) B0 kpN nn
    replace hn : (upd H6 pn (.lst ([V.int n] ++ [V.int n2]))) pn = some (.lst [V.int n, V.int n2]) := upd_same
    replace B2 := kpN.bag
    generalize upd H6 pn _ = H7 at kpN hn B2
    clear kpN B0 nn
    refine seqI fun K1 k1 => ?_
    walk_at "rd"
    refine ⟨by decide, ?_⟩
    intro p0 m0
    generalize e_p0 : upd H7 p0 _ = H8
    have s8 := new_s m0 e_p0
    have h8 := new_h e_p0
    clear e_p0
    try (first | replace hn := s8 _ _ hn | replace hn := hn.same s8 | replace hn := hn.then s8 | replace hn := hn.trans s8)
    try (first | replace B2 := s8 _ _ B2 | replace B2 := B2.same s8 | replace B2 := B2.then s8 | replace B2 := B2.trans s8)
    refine ⟨b, p0, [], rfl, B2, h8, by decide, fun z h => (by cases h), fun r0 l0 H9 kp9 nr0 hr0 ll0 hw0 => ⟨by decide, ?_⟩⟩
    try (first | replace hn := Kp.lst kp9 B2 hn | replace hn := Kp.tup kp9 B2 hn | replace hn := Kp.ins kp9 B2 hn | replace hn := hn.kp B2 kp9 | replace hn := Kp.trans hn kp9)
    try (first | replace h8 := Kp.lst kp9 B2 h8 | replace h8 := Kp.tup kp9 B2 h8 | replace h8 := Kp.ins kp9 B2 h8 | replace h8 := h8.kp B2 kp9 | replace h8 := Kp.trans h8 kp9)
    replace B2 := Kp.bag kp9
    have B9 := B2
    have hn9 := hn
    have hr09 := hr0
    intro pr mr
    generalize e_pr : upd H9 pr _ = H10
    have s10 := new_s mr e_pr
    have hr := new_h e_pr
    clear e_pr
    try (first | replace hn := s10 _ _ hn | replace hn := hn.same s10 | replace hn := hn.then s10 | replace hn := hn.trans s10)
    try (first | replace hr0 := s10 _ _ hr0 | replace hr0 := hr0.same s10 | replace hr0 := hr0.then s10 | replace hr0 := hr0.trans s10)
    refine k1 _ _ ?_
    clear k1
    have kpR := Kp.same B9 s10
    replace B2 := kpR.bag
    clear nr0 kp9 s8 h8 m0 s10
    refine seqI fun K1 k1 => ?_
    walk_at "rd"
    refine ⟨tyL hr, _, hr, _, rfl, b, r0, l0, rfl, B2, hr0, ll0, hw0, fun r1 l1 H11 kp11 nr1 hr1 ll1 hw1 => ⟨_, kp11.lst B2 hr, (show 1 < sizeLine by decide), k1 _ _ ?_⟩⟩
    clear k1
    have ne : r1 ≠ pr := fun e => by rw [e, hr] at nr1; cases nr1
    replace kpR := Kp.put (o := .lst ([V.ref r0] ++ [V.ref r1])) B9 (kpR.trans kp11) mr
    replace hr : (upd H11 pr (.lst ([V.ref r0] ++ [V.ref r1]))) pr = some (.lst [V.ref r0, V.ref r1]) := upd_same
    replace hr1 : (upd H11 pr (.lst ([V.ref r0] ++ [V.ref r1]))) r1 = some (.lst (ms l1)) := by
      rw [upd_ne ne]
      exact hr1
    replace hn := kpR.lst B9 hn9
    replace hr0 := kpR.lst B9 hr09
    replace B2 := kpR.bag
    generalize upd H11 pr _ = H12 at kpR hr hr1 hn hr0 B2
    clear kpR B9 mr nr1 ne kp11 hn9 hr09
    refine seqI fun K1 k1 => ?_
    walk_at "rd"
    have w0 : ∀ z ∈ l0, isW z = true ∧ z.length ≤ 1000 := fun z hz => ⟨(hw0 z hz).1, by have := (hw0 z hz).2; omega⟩
    have w1 : ∀ z ∈ l1, isW z = true ∧ z.length ≤ 1000 := fun z hz => ⟨(hw1 z hz).1, by have := (hw1 z hz).2; omega⟩
    refine ⟨_, hn, _, rfl, _, hr, _, rfl, b, 2, rfl, B2, by decide, by decide, fun g H13 _ _ kp13 => ?_⟩
    try (first | replace hn := Kp.lst kp13 B2 hn | replace hn := Kp.tup kp13 B2 hn | replace hn := Kp.ins kp13 B2 hn | replace hn := hn.kp B2 kp13 | replace hn := Kp.trans hn kp13)
    try (first | replace hr := Kp.lst kp13 B2 hr | replace hr := Kp.tup kp13 B2 hr | replace hr := Kp.ins kp13 B2 hr | replace hr := hr.kp B2 kp13 | replace hr := Kp.trans hr kp13)
    try (first | replace hr0 := Kp.lst kp13 B2 hr0 | replace hr0 := Kp.tup kp13 B2 hr0 | replace hr0 := Kp.ins kp13 B2 hr0 | replace hr0 := hr0.kp B2 kp13 | replace hr0 := Kp.trans hr0 kp13)
    try (first | replace hr1 := Kp.lst kp13 B2 hr1 | replace hr1 := Kp.tup kp13 B2 hr1 | replace hr1 := Kp.ins kp13 B2 hr1 | replace hr1 := hr1.kp B2 kp13 | replace hr1 := Kp.trans hr1 kp13)
    replace B2 := Kp.bag kp13
    refine ⟨n, r0, l0, g, rfl, v1, v3, hr0, by omega, w0, fun x H14 fs ws s14 o1 Lx => ?_⟩
    try (first | replace hn := s14 _ _ hn | replace hn := hn.same s14 | replace hn := hn.then s14 | replace hn := hn.trans s14)
    try (first | replace hr := s14 _ _ hr | replace hr := hr.same s14 | replace hr := hr.then s14 | replace hr := hr.trans s14)
    try (first | replace hr0 := s14 _ _ hr0 | replace hr0 := hr0.same s14 | replace hr0 := hr0.then s14 | replace hr0 := hr0.trans s14)
    try (first | replace hr1 := s14 _ _ hr1 | replace hr1 := hr1.same s14 | replace hr1 := hr1.then s14 | replace hr1 := hr1.trans s14)
    try (first | replace B2 := s14 _ _ B2 | replace B2 := B2.same s14 | replace B2 := B2.then s14 | replace B2 := B2.trans s14)
    refine ⟨_, hn, _, rfl, _, hr, _, rfl, n2, r1, l1, 0, rfl, v21, v23, hr1, by omega, w1, fun y H15 gs us s15 o2 Ly => ⟨by decide, ?_⟩⟩
    try (first | replace hn := s15 _ _ hn | replace hn := hn.same s15 | replace hn := hn.then s15 | replace hn := hn.trans s15)
    try (first | replace hr := s15 _ _ hr | replace hr := hr.same s15 | replace hr := hr.then s15 | replace hr := hr.trans s15)
    try (first | replace hr0 := s15 _ _ hr0 | replace hr0 := hr0.same s15 | replace hr0 := hr0.then s15 | replace hr0 := hr0.trans s15)
    try (first | replace hr1 := s15 _ _ hr1 | replace hr1 := hr1.same s15 | replace hr1 := hr1.then s15 | replace hr1 := hr1.trans s15)
    try (first | replace B2 := s15 _ _ B2 | replace B2 := B2.same s15 | replace B2 := B2.then s15 | replace B2 := B2.trans s15)
    try (first | replace Lx := s15 _ _ Lx | replace Lx := Lx.same s15 | replace Lx := Lx.then s15 | replace Lx := Lx.trans s15)
    intro pl ml
    generalize e_pl : upd H15 pl _ = H16
    have s16 := new_s ml e_pl
    have hl := new_h e_pl
    clear e_pl
    try (first | replace hn := s16 _ _ hn | replace hn := hn.same s16 | replace hn := hn.then s16 | replace hn := hn.trans s16)
    try (first | replace hr := s16 _ _ hr | replace hr := hr.same s16 | replace hr := hr.then s16 | replace hr := hr.trans s16)
    try (first | replace hr0 := s16 _ _ hr0 | replace hr0 := hr0.same s16 | replace hr0 := hr0.then s16 | replace hr0 := hr0.trans s16)
    try (first | replace hr1 := s16 _ _ hr1 | replace hr1 := hr1.same s16 | replace hr1 := hr1.then s16 | replace hr1 := hr1.trans s16)
    try (first | replace B2 := s16 _ _ B2 | replace B2 := B2.same s16 | replace B2 := B2.then s16 | replace B2 := B2.trans s16)
    try (first | replace Lx := s16 _ _ Lx | replace Lx := Lx.same s16 | replace Lx := Lx.then s16 | replace Lx := Lx.trans s16)
    try (first | replace Ly := s16 _ _ Ly | replace Ly := Ly.same s16 | replace Ly := Ly.then s16 | replace Ly := Ly.trans s16)
    refine k1 _ _ ?_
    clear k1 kp13 s14 s15 s16
    refine seqI fun K1 k1 => ?_
    walk_at "rd"
    refine ⟨_, hl, _, rfl, ?_⟩
    rw [if_neg (by intro h; cases h)]
    refine ⟨_, hl, _, rfl, ?_⟩
    rw [if_neg (by intro h; cases h)]
    refine k1 _ _ ?_
    clear k1
    refine seqI fun K1 k1 => ?_
    walk_at "rd"
    refine ⟨_, hn, _, rfl, _, hr, _, rfl, n, r0, l0, rfl, v1, v3, hr0, by omega, w0, fun f0 ys0 H17 s17 d0 nf0 hf0 => ?_⟩
    try (first | replace hn := s17 _ _ hn | replace hn := hn.same s17 | replace hn := hn.then s17 | replace hn := hn.trans s17)
    try (first | replace hr := s17 _ _ hr | replace hr := hr.same s17 | replace hr := hr.then s17 | replace hr := hr.trans s17)
    try (first | replace hr0 := s17 _ _ hr0 | replace hr0 := hr0.same s17 | replace hr0 := hr0.then s17 | replace hr0 := hr0.trans s17)
    try (first | replace hr1 := s17 _ _ hr1 | replace hr1 := hr1.same s17 | replace hr1 := hr1.then s17 | replace hr1 := hr1.trans s17)
    try (first | replace B2 := s17 _ _ B2 | replace B2 := B2.same s17 | replace B2 := B2.then s17 | replace B2 := B2.trans s17)
    try (first | replace Lx := s17 _ _ Lx | replace Lx := Lx.same s17 | replace Lx := Lx.then s17 | replace Lx := Lx.trans s17)
    try (first | replace Ly := s17 _ _ Ly | replace Ly := Ly.same s17 | replace Ly := Ly.then s17 | replace Ly := Ly.trans s17)
    try (first | replace hl := s17 _ _ hl | replace hl := hl.same s17 | replace hl := hl.then s17 | replace hl := hl.trans s17)
    refine ⟨_, hn, _, rfl, _, hr, _, rfl, n2, r1, l1, rfl, v21, v23, hr1, by omega, w1, fun f1 ys1 H18 s18 d1 nf1 hf1 => ⟨by decide, ?_⟩⟩
    try (first | replace hn := s18 _ _ hn | replace hn := hn.same s18 | replace hn := hn.then s18 | replace hn := hn.trans s18)
    try (first | replace hr := s18 _ _ hr | replace hr := hr.same s18 | replace hr := hr.then s18 | replace hr := hr.trans s18)
    try (first | replace hr0 := s18 _ _ hr0 | replace hr0 := hr0.same s18 | replace hr0 := hr0.then s18 | replace hr0 := hr0.trans s18)
    try (first | replace hr1 := s18 _ _ hr1 | replace hr1 := hr1.same s18 | replace hr1 := hr1.then s18 | replace hr1 := hr1.trans s18)
    try (first | replace B2 := s18 _ _ B2 | replace B2 := B2.same s18 | replace B2 := B2.then s18 | replace B2 := B2.trans s18)
    try (first | replace Lx := s18 _ _ Lx | replace Lx := Lx.same s18 | replace Lx := Lx.then s18 | replace Lx := Lx.trans s18)
    try (first | replace Ly := s18 _ _ Ly | replace Ly := Ly.same s18 | replace Ly := Ly.then s18 | replace Ly := Ly.trans s18)
    try (first | replace hl := s18 _ _ hl | replace hl := hl.same s18 | replace hl := hl.then s18 | replace hl := hl.trans s18)
    try (first | replace hf0 := s18 _ _ hf0 | replace hf0 := hf0.same s18 | replace hf0 := hf0.then s18 | replace hf0 := hf0.trans s18)
    intro pf mf
    generalize e_pf : upd H18 pf _ = H19
    have s19 := new_s mf e_pf
    have hf := new_h e_pf
    clear e_pf
    try (first | replace hn := s19 _ _ hn | replace hn := hn.same s19 | replace hn := hn.then s19 | replace hn := hn.trans s19)
    try (first | replace hr := s19 _ _ hr | replace hr := hr.same s19 | replace hr := hr.then s19 | replace hr := hr.trans s19)
    try (first | replace hr0 := s19 _ _ hr0 | replace hr0 := hr0.same s19 | replace hr0 := hr0.then s19 | replace hr0 := hr0.trans s19)
    try (first | replace hr1 := s19 _ _ hr1 | replace hr1 := hr1.same s19 | replace hr1 := hr1.then s19 | replace hr1 := hr1.trans s19)
    try (first | replace B2 := s19 _ _ B2 | replace B2 := B2.same s19 | replace B2 := B2.then s19 | replace B2 := B2.trans s19)
    try (first | replace Lx := s19 _ _ Lx | replace Lx := Lx.same s19 | replace Lx := Lx.then s19 | replace Lx := Lx.trans s19)
    try (first | replace Ly := s19 _ _ Ly | replace Ly := Ly.same s19 | replace Ly := Ly.then s19 | replace Ly := Ly.trans s19)
    try (first | replace hl := s19 _ _ hl | replace hl := hl.same s19 | replace hl := hl.then s19 | replace hl := hl.trans s19)
    try (first | replace hf0 := s19 _ _ hf0 | replace hf0 := hf0.same s19 | replace hf0 := hf0.then s19 | replace hf0 := hf0.trans s19)
    try (first | replace hf1 := s19 _ _ hf1 | replace hf1 := hf1.same s19 | replace hf1 := hf1.then s19 | replace hf1 := hf1.trans s19)
    have e0 : ys0 = fs := sorted_uniq d0.1 o1.1.so d0.2.1 o1.1.nd fun f => by rw [d0.2.2 f, o1.2 f]
    have e1 : ys1 = gs := sorted_uniq d1.1 o2.1.so d1.2.1 o2.1.nd fun f => by rw [d1.2.2 f, o2.2 f]
    subst e0 e1
    refine k1 _ _ ?_
    clear k1 nf0 nf1 mf s17 s18 s19 d0 d1 ml
    refine seqI fun K1 k1 => ?_
    walk_at "rd"
    refine ⟨_, hr, _, rfl, _, hr, _, rfl, r0, rfl, r1, rfl, _, hr0, _, hr1, ?_, ?_⟩
    · rw [List.length_map, List.length_map]
      exact sz (by omega)
    intro qa ma
    generalize e_qa : upd H19 qa _ = H20
    have s20 := new_s ma e_qa
    have ha := new_h e_qa
    clear e_qa
    try (first | replace hn := s20 _ _ hn | replace hn := hn.same s20 | replace hn := hn.then s20 | replace hn := hn.trans s20)
    try (first | replace hr := s20 _ _ hr | replace hr := hr.same s20 | replace hr := hr.then s20 | replace hr := hr.trans s20)
    try (first | replace hr0 := s20 _ _ hr0 | replace hr0 := hr0.same s20 | replace hr0 := hr0.then s20 | replace hr0 := hr0.trans s20)
    try (first | replace hr1 := s20 _ _ hr1 | replace hr1 := hr1.same s20 | replace hr1 := hr1.then s20 | replace hr1 := hr1.trans s20)
    try (first | replace B2 := s20 _ _ B2 | replace B2 := B2.same s20 | replace B2 := B2.then s20 | replace B2 := B2.trans s20)
    try (first | replace Lx := s20 _ _ Lx | replace Lx := Lx.same s20 | replace Lx := Lx.then s20 | replace Lx := Lx.trans s20)
    try (first | replace Ly := s20 _ _ Ly | replace Ly := Ly.same s20 | replace Ly := Ly.then s20 | replace Ly := Ly.trans s20)
    try (first | replace hl := s20 _ _ hl | replace hl := hl.same s20 | replace hl := hl.then s20 | replace hl := hl.trans s20)
    try (first | replace hf0 := s20 _ _ hf0 | replace hf0 := hf0.same s20 | replace hf0 := hf0.then s20 | replace hf0 := hf0.trans s20)
    try (first | replace hf1 := s20 _ _ hf1 | replace hf1 := hf1.same s20 | replace hf1 := hf1.then s20 | replace hf1 := hf1.trans s20)
    try (first | replace hf := s20 _ _ hf | replace hf := hf.same s20 | replace hf := hf.then s20 | replace hf := hf.trans s20)
    refine ⟨_, hr, _, rfl, b, r0, l0, rfl, B2, hr0, by omega, hw0, fun z H21 wz lz kp21 => ⟨by decide, ?_⟩⟩
    try (first | replace hn := Kp.lst kp21 B2 hn | replace hn := Kp.tup kp21 B2 hn | replace hn := Kp.ins kp21 B2 hn | replace hn := hn.kp B2 kp21 | replace hn := Kp.trans hn kp21)
    try (first | replace hr := Kp.lst kp21 B2 hr | replace hr := Kp.tup kp21 B2 hr | replace hr := Kp.ins kp21 B2 hr | replace hr := hr.kp B2 kp21 | replace hr := Kp.trans hr kp21)
    try (first | replace hr0 := Kp.lst kp21 B2 hr0 | replace hr0 := Kp.tup kp21 B2 hr0 | replace hr0 := Kp.ins kp21 B2 hr0 | replace hr0 := hr0.kp B2 kp21 | replace hr0 := Kp.trans hr0 kp21)
    try (first | replace hr1 := Kp.lst kp21 B2 hr1 | replace hr1 := Kp.tup kp21 B2 hr1 | replace hr1 := Kp.ins kp21 B2 hr1 | replace hr1 := hr1.kp B2 kp21 | replace hr1 := Kp.trans hr1 kp21)
    try (first | replace Lx := Kp.lst kp21 B2 Lx | replace Lx := Kp.tup kp21 B2 Lx | replace Lx := Kp.ins kp21 B2 Lx | replace Lx := Lx.kp B2 kp21 | replace Lx := Kp.trans Lx kp21)
    try (first | replace Ly := Kp.lst kp21 B2 Ly | replace Ly := Kp.tup kp21 B2 Ly | replace Ly := Kp.ins kp21 B2 Ly | replace Ly := Ly.kp B2 kp21 | replace Ly := Kp.trans Ly kp21)
    try (first | replace hl := Kp.lst kp21 B2 hl | replace hl := Kp.tup kp21 B2 hl | replace hl := Kp.ins kp21 B2 hl | replace hl := hl.kp B2 kp21 | replace hl := Kp.trans hl kp21)
    try (first | replace hf0 := Kp.lst kp21 B2 hf0 | replace hf0 := Kp.tup kp21 B2 hf0 | replace hf0 := Kp.ins kp21 B2 hf0 | replace hf0 := hf0.kp B2 kp21 | replace hf0 := Kp.trans hf0 kp21)
    try (first | replace hf1 := Kp.lst kp21 B2 hf1 | replace hf1 := Kp.tup kp21 B2 hf1 | replace hf1 := Kp.ins kp21 B2 hf1 | replace hf1 := hf1.kp B2 kp21 | replace hf1 := Kp.trans hf1 kp21)
    try (first | replace hf := Kp.lst kp21 B2 hf | replace hf := Kp.tup kp21 B2 hf | replace hf := Kp.ins kp21 B2 hf | replace hf := hf.kp B2 kp21 | replace hf := Kp.trans hf kp21)
    try (first | replace ha := Kp.lst kp21 B2 ha | replace ha := Kp.tup kp21 B2 ha | replace ha := Kp.ins kp21 B2 ha | replace ha := ha.kp B2 kp21 | replace ha := Kp.trans ha kp21)
    replace B2 := Kp.bag kp21
    intro qb mb
    generalize e_qb : upd H21 qb _ = H22
    have s22 := new_s mb e_qb
    have hb := new_h e_qb
    clear e_qb
    try (first | replace hn := s22 _ _ hn | replace hn := hn.same s22 | replace hn := hn.then s22 | replace hn := hn.trans s22)
    try (first | replace hr := s22 _ _ hr | replace hr := hr.same s22 | replace hr := hr.then s22 | replace hr := hr.trans s22)
    try (first | replace hr0 := s22 _ _ hr0 | replace hr0 := hr0.same s22 | replace hr0 := hr0.then s22 | replace hr0 := hr0.trans s22)
    try (first | replace hr1 := s22 _ _ hr1 | replace hr1 := hr1.same s22 | replace hr1 := hr1.then s22 | replace hr1 := hr1.trans s22)
    try (first | replace B2 := s22 _ _ B2 | replace B2 := B2.same s22 | replace B2 := B2.then s22 | replace B2 := B2.trans s22)
    try (first | replace Lx := s22 _ _ Lx | replace Lx := Lx.same s22 | replace Lx := Lx.then s22 | replace Lx := Lx.trans s22)
    try (first | replace Ly := s22 _ _ Ly | replace Ly := Ly.same s22 | replace Ly := Ly.then s22 | replace Ly := Ly.trans s22)
    try (first | replace hl := s22 _ _ hl | replace hl := hl.same s22 | replace hl := hl.then s22 | replace hl := hl.trans s22)
    try (first | replace hf0 := s22 _ _ hf0 | replace hf0 := hf0.same s22 | replace hf0 := hf0.then s22 | replace hf0 := hf0.trans s22)
    try (first | replace hf1 := s22 _ _ hf1 | replace hf1 := hf1.same s22 | replace hf1 := hf1.then s22 | replace hf1 := hf1.trans s22)
    try (first | replace hf := s22 _ _ hf | replace hf := hf.same s22 | replace hf := hf.then s22 | replace hf := hf.trans s22)
    try (first | replace ha := s22 _ _ ha | replace ha := ha.same s22 | replace ha := ha.then s22 | replace ha := ha.trans s22)
    refine ⟨_, ha, ?_, ?_⟩
    · rw [List.length_append, List.length_map, List.length_map]
      exact sz (by omega)
    intro qc mc
    generalize e_qc : upd H22 qc _ = H23
    have s23 := new_s mc e_qc
    have hc := new_h e_qc
    clear e_qc
    try (first | replace hn := s23 _ _ hn | replace hn := hn.same s23 | replace hn := hn.then s23 | replace hn := hn.trans s23)
    try (first | replace hr := s23 _ _ hr | replace hr := hr.same s23 | replace hr := hr.then s23 | replace hr := hr.trans s23)
    try (first | replace hr0 := s23 _ _ hr0 | replace hr0 := hr0.same s23 | replace hr0 := hr0.then s23 | replace hr0 := hr0.trans s23)
    try (first | replace hr1 := s23 _ _ hr1 | replace hr1 := hr1.same s23 | replace hr1 := hr1.then s23 | replace hr1 := hr1.trans s23)
    try (first | replace B2 := s23 _ _ B2 | replace B2 := B2.same s23 | replace B2 := B2.then s23 | replace B2 := B2.trans s23)
    try (first | replace Lx := s23 _ _ Lx | replace Lx := Lx.same s23 | replace Lx := Lx.then s23 | replace Lx := Lx.trans s23)
    try (first | replace Ly := s23 _ _ Ly | replace Ly := Ly.same s23 | replace Ly := Ly.then s23 | replace Ly := Ly.trans s23)
    try (first | replace hl := s23 _ _ hl | replace hl := hl.same s23 | replace hl := hl.then s23 | replace hl := hl.trans s23)
    try (first | replace hf0 := s23 _ _ hf0 | replace hf0 := hf0.same s23 | replace hf0 := hf0.then s23 | replace hf0 := hf0.trans s23)
    try (first | replace hf1 := s23 _ _ hf1 | replace hf1 := hf1.same s23 | replace hf1 := hf1.then s23 | replace hf1 := hf1.trans s23)
    try (first | replace hf := s23 _ _ hf | replace hf := hf.same s23 | replace hf := hf.then s23 | replace hf := hf.trans s23)
    try (first | replace ha := s23 _ _ ha | replace ha := ha.same s23 | replace ha := ha.then s23 | replace ha := ha.trans s23)
    try (first | replace hb := s23 _ _ hb | replace hb := hb.same s23 | replace hb := hb.then s23 | replace hb := hb.trans s23)
    replace hc : H23 qc = some (.lst (ms (l0 ++ l1 ++ [z, ",", "e", "'"]))) := by rw [hc]; simp [ms]
    have wc : ∀ y ∈ l0 ++ l1 ++ [z, ",", "e", "'"], isW y = true ∧ y.length ≤ 1000 := by
      intro y hy
      simp only [List.mem_append, List.mem_cons, List.not_mem_nil, or_false] at hy
      rcases hy with (hy | hy) | rfl | rfl | rfl | rfl
      · exact w0 y hy
      · exact w1 y hy
      · exact ⟨wz, by omega⟩
      · decide +kernel
      · decide +kernel
      · decide +kernel
    refine k1 _ _ ?_
    clear k1 ha hb ma mb mc s20 kp21 s22 s23
    have t : Two K H23 ⟨pl, pf, x, y, f0, f1, n, n2, ys0, ws, ys1, us⟩ := ⟨hl, hf, Lx, Ly, hf0, hf1⟩
    refine seqI fun K1 k1 => ?_
    walk_at "rd"
    refine ⟨b, pn, qc, ⟨pl, pf, x, y, f0, f1, n, n2, ys0, ws, ys1, us⟩, _, rfl, B2, t, hn, hc, wc, fun H24 kp24 => ⟨_, rfl, ?_⟩⟩
    rw [if_neg (by decide)]
    refine k1 _ _ ?_
    clear k1
    clear hc wc
    try (first | replace hl := Kp.lst kp24 B2 hl | replace hl := Kp.tup kp24 B2 hl | replace hl := Kp.ins kp24 B2 hl | replace hl := hl.kp B2 kp24 | replace hl := Kp.trans hl kp24)
    try (first | replace hf := Kp.lst kp24 B2 hf | replace hf := Kp.tup kp24 B2 hf | replace hf := Kp.ins kp24 B2 hf | replace hf := hf.kp B2 kp24 | replace hf := Kp.trans hf kp24)
    try (first | replace Lx := Kp.lst kp24 B2 Lx | replace Lx := Kp.tup kp24 B2 Lx | replace Lx := Kp.ins kp24 B2 Lx | replace Lx := Lx.kp B2 kp24 | replace Lx := Kp.trans Lx kp24)
    try (first | replace Ly := Kp.lst kp24 B2 Ly | replace Ly := Kp.tup kp24 B2 Ly | replace Ly := Kp.ins kp24 B2 Ly | replace Ly := Ly.kp B2 kp24 | replace Ly := Kp.trans Ly kp24)
    try (first | replace hf0 := Kp.lst kp24 B2 hf0 | replace hf0 := Kp.tup kp24 B2 hf0 | replace hf0 := Kp.ins kp24 B2 hf0 | replace hf0 := hf0.kp B2 kp24 | replace hf0 := Kp.trans hf0 kp24)
    try (first | replace hf1 := Kp.lst kp24 B2 hf1 | replace hf1 := Kp.tup kp24 B2 hf1 | replace hf1 := Kp.ins kp24 B2 hf1 | replace hf1 := hf1.kp B2 kp24 | replace hf1 := Kp.trans hf1 kp24)
    try (first | replace hn := Kp.lst kp24 B2 hn | replace hn := Kp.tup kp24 B2 hn | replace hn := Kp.ins kp24 B2 hn | replace hn := hn.kp B2 kp24 | replace hn := Kp.trans hn kp24)
    try (first | replace hr := Kp.lst kp24 B2 hr | replace hr := Kp.tup kp24 B2 hr | replace hr := Kp.ins kp24 B2 hr | replace hr := hr.kp B2 kp24 | replace hr := Kp.trans hr kp24)
    try (first | replace hr0 := Kp.lst kp24 B2 hr0 | replace hr0 := Kp.tup kp24 B2 hr0 | replace hr0 := Kp.ins kp24 B2 hr0 | replace hr0 := hr0.kp B2 kp24 | replace hr0 := Kp.trans hr0 kp24)
    try (first | replace hr1 := Kp.lst kp24 B2 hr1 | replace hr1 := Kp.tup kp24 B2 hr1 | replace hr1 := Kp.ins kp24 B2 hr1 | replace hr1 := hr1.kp B2 kp24 | replace hr1 := Kp.trans hr1 kp24)
    try (first | replace t := Kp.lst kp24 B2 t | replace t := Kp.tup kp24 B2 t | replace t := Kp.ins kp24 B2 t | replace t := t.kp B2 kp24 | replace t := Kp.trans t kp24)
    replace B2 := Kp.bag kp24
    refine seqI fun K1 k1 => ?_
    walk_at "rd"
    refine ⟨_, hl, _, rfl, _, hf, _, rfl, x, f0, _, _, _, rfl, Lx, hf0, fun H25 s25 => ⟨_, rfl, ?_⟩⟩
    rw [if_neg (by decide)]
    try (first | replace B2 := s25 _ _ B2 | replace B2 := B2.same s25 | replace B2 := B2.then s25 | replace B2 := B2.trans s25)
    try (first | replace hl := s25 _ _ hl | replace hl := hl.same s25 | replace hl := hl.then s25 | replace hl := hl.trans s25)
    try (first | replace hf := s25 _ _ hf | replace hf := hf.same s25 | replace hf := hf.then s25 | replace hf := hf.trans s25)
    try (first | replace Lx := s25 _ _ Lx | replace Lx := Lx.same s25 | replace Lx := Lx.then s25 | replace Lx := Lx.trans s25)
    try (first | replace Ly := s25 _ _ Ly | replace Ly := Ly.same s25 | replace Ly := Ly.then s25 | replace Ly := Ly.trans s25)
    try (first | replace hf0 := s25 _ _ hf0 | replace hf0 := hf0.same s25 | replace hf0 := hf0.then s25 | replace hf0 := hf0.trans s25)
    try (first | replace hf1 := s25 _ _ hf1 | replace hf1 := hf1.same s25 | replace hf1 := hf1.then s25 | replace hf1 := hf1.trans s25)
    try (first | replace hn := s25 _ _ hn | replace hn := hn.same s25 | replace hn := hn.then s25 | replace hn := hn.trans s25)
    try (first | replace hr := s25 _ _ hr | replace hr := hr.same s25 | replace hr := hr.then s25 | replace hr := hr.trans s25)
    try (first | replace hr0 := s25 _ _ hr0 | replace hr0 := hr0.same s25 | replace hr0 := hr0.then s25 | replace hr0 := hr0.trans s25)
    try (first | replace hr1 := s25 _ _ hr1 | replace hr1 := hr1.same s25 | replace hr1 := hr1.then s25 | replace hr1 := hr1.trans s25)
    try (first | replace t := s25 _ _ t | replace t := t.same s25 | replace t := t.then s25 | replace t := t.trans s25)
    refine ⟨_, hl, _, rfl, _, hf, _, rfl, y, f1, _, _, _, rfl, Ly, hf1, fun H26 s26 => ⟨_, rfl, ?_⟩⟩
    rw [if_neg (by decide)]
    try (first | replace B2 := s26 _ _ B2 | replace B2 := B2.same s26 | replace B2 := B2.then s26 | replace B2 := B2.trans s26)
    try (first | replace hl := s26 _ _ hl | replace hl := hl.same s26 | replace hl := hl.then s26 | replace hl := hl.trans s26)
    try (first | replace hf := s26 _ _ hf | replace hf := hf.same s26 | replace hf := hf.then s26 | replace hf := hf.trans s26)
    try (first | replace Lx := s26 _ _ Lx | replace Lx := Lx.same s26 | replace Lx := Lx.then s26 | replace Lx := Lx.trans s26)
    try (first | replace Ly := s26 _ _ Ly | replace Ly := Ly.same s26 | replace Ly := Ly.then s26 | replace Ly := Ly.trans s26)
    try (first | replace hf0 := s26 _ _ hf0 | replace hf0 := hf0.same s26 | replace hf0 := hf0.then s26 | replace hf0 := hf0.trans s26)
    try (first | replace hf1 := s26 _ _ hf1 | replace hf1 := hf1.same s26 | replace hf1 := hf1.then s26 | replace hf1 := hf1.trans s26)
    try (first | replace hn := s26 _ _ hn | replace hn := hn.same s26 | replace hn := hn.then s26 | replace hn := hn.trans s26)
    try (first | replace hr := s26 _ _ hr | replace hr := hr.same s26 | replace hr := hr.then s26 | replace hr := hr.trans s26)
    try (first | replace hr0 := s26 _ _ hr0 | replace hr0 := hr0.same s26 | replace hr0 := hr0.then s26 | replace hr0 := hr0.trans s26)
    try (first | replace hr1 := s26 _ _ hr1 | replace hr1 := hr1.same s26 | replace hr1 := hr1.then s26 | replace hr1 := hr1.trans s26)
    try (first | replace t := s26 _ _ t | replace t := t.same s26 | replace t := t.then s26 | replace t := t.trans s26)
    refine k1 _ _ ?_
    clear k1
    clear kp24 s25 s26
    refine seqI fun K1 k1 => ?_
    walk_at "rd"
    refine ⟨_, hn, _, rfl, _, hn, _, rfl, ?_⟩
    have go : ∀ H27, Same H26 H27 → K1 [some (V.ref a), some (V.ref b), some (V.ref pn), some (V.ref pr), some (V.ref pl), some (V.ref pf), some (V.ref qc)] H27 := by
      intro H27 s27
      try (first | replace B2 := s27 _ _ B2 | replace B2 := B2.same s27 | replace B2 := B2.then s27 | replace B2 := B2.trans s27)
      try (first | replace hl := s27 _ _ hl | replace hl := hl.same s27 | replace hl := hl.then s27 | replace hl := hl.trans s27)
      try (first | replace hf := s27 _ _ hf | replace hf := hf.same s27 | replace hf := hf.then s27 | replace hf := hf.trans s27)
      try (first | replace Lx := s27 _ _ Lx | replace Lx := Lx.same s27 | replace Lx := Lx.then s27 | replace Lx := Lx.trans s27)
      try (first | replace Ly := s27 _ _ Ly | replace Ly := Ly.same s27 | replace Ly := Ly.then s27 | replace Ly := Ly.trans s27)
      try (first | replace hf0 := s27 _ _ hf0 | replace hf0 := hf0.same s27 | replace hf0 := hf0.then s27 | replace hf0 := hf0.trans s27)
      try (first | replace hf1 := s27 _ _ hf1 | replace hf1 := hf1.same s27 | replace hf1 := hf1.then s27 | replace hf1 := hf1.trans s27)
      try (first | replace hn := s27 _ _ hn | replace hn := hn.same s27 | replace hn := hn.then s27 | replace hn := hn.trans s27)
      try (first | replace hr := s27 _ _ hr | replace hr := hr.same s27 | replace hr := hr.then s27 | replace hr := hr.trans s27)
      try (first | replace hr0 := s27 _ _ hr0 | replace hr0 := hr0.same s27 | replace hr0 := hr0.then s27 | replace hr0 := hr0.trans s27)
      try (first | replace hr1 := s27 _ _ hr1 | replace hr1 := hr1.same s27 | replace hr1 := hr1.then s27 | replace hr1 := hr1.trans s27)
      try (first | replace t := s27 _ _ t | replace t := t.same s27 | replace t := t.then s27 | replace t := t.trans s27)
      clear s27 t
      refine k1 _ _ ?_
      clear k1
      refine seqI fun K1 k1 => ?_
      walk_at "rd"
      refine ⟨_, hn, _, rfl, _, hn, _, rfl, rfl, ?_⟩
      obtain ⟨dx, fl, hx⟩ := Lx.ins
      obtain ⟨dy, gl, hy⟩ := Ly.ins
      have go2 : K1 [some (V.ref a), some (V.ref b), some (V.ref pn), some (V.ref pr), some (V.ref pl), some (V.ref pf), some (V.ref qc)] H27 := by
        refine k1 _ _ ?_
        clear k1
        clear hx hy hf hf0 hf1 hl Lx Ly
        have hd : ∀ H', SqA K H' (He.dflAt ("Lexicon", some "__init__") 0 K) (ms []) := by
          obtain ⟨a, ea, h⟩ := tupI_ok T.t_dfl
          cases ea
          exact fun H' => .inr (h H')
        have emp : ∀ {m : Int} {fs ws : List Str}, lexOf m [] fs ws → fs = [] := fun o => List.eq_nil_iff_forall_not_mem.mpr fun f hf => by
          have := (o.2 f).mp hf
          simp at this
        refine seqI fun K1 k1 => ?_
        walk_at "rd"
        refine ⟨_, hn, _, rfl, ?_⟩
        refine mk_lex (zs := []) v21 v23 (hd _) (by decide) (fun z h => by cases h) fun x1 H28 fa wa s28 o3 La => ?_
        obtain rfl := emp o3
        try (first | replace hn := s28 _ _ hn | replace hn := hn.same s28 | replace hn := hn.then s28 | replace hn := hn.trans s28)
        try (first | replace hr := s28 _ _ hr | replace hr := hr.same s28 | replace hr := hr.then s28 | replace hr := hr.trans s28)
        try (first | replace hr0 := s28 _ _ hr0 | replace hr0 := hr0.same s28 | replace hr0 := hr0.then s28 | replace hr0 := hr0.trans s28)
        try (first | replace B2 := s28 _ _ B2 | replace B2 := B2.same s28 | replace B2 := B2.then s28 | replace B2 := B2.trans s28)
        refine ⟨by decide, ?_⟩
        intro e1 me1
        generalize e_e1 : upd H28 e1 _ = H29
        have s29 := new_s me1 e_e1
        have he1 := new_h e_e1
        clear e_e1
        try (first | replace hn := s29 _ _ hn | replace hn := hn.same s29 | replace hn := hn.then s29 | replace hn := hn.trans s29)
        try (first | replace hr := s29 _ _ hr | replace hr := hr.same s29 | replace hr := hr.then s29 | replace hr := hr.trans s29)
        try (first | replace hr0 := s29 _ _ hr0 | replace hr0 := hr0.same s29 | replace hr0 := hr0.then s29 | replace hr0 := hr0.trans s29)
        try (first | replace B2 := s29 _ _ B2 | replace B2 := B2.same s29 | replace B2 := B2.then s29 | replace B2 := B2.trans s29)
        try (first | replace La := s29 _ _ La | replace La := La.same s29 | replace La := La.then s29 | replace La := La.trans s29)
        refine ⟨x1, e1, _, _, _, rfl, La, he1, fun H30 s30 => ⟨_, rfl, ?_⟩⟩
        rw [if_neg (by decide)]
        try (first | replace hn := s30 _ _ hn | replace hn := hn.same s30 | replace hn := hn.then s30 | replace hn := hn.trans s30)
        try (first | replace hr := s30 _ _ hr | replace hr := hr.same s30 | replace hr := hr.then s30 | replace hr := hr.trans s30)
        try (first | replace hr0 := s30 _ _ hr0 | replace hr0 := hr0.same s30 | replace hr0 := hr0.then s30 | replace hr0 := hr0.trans s30)
        try (first | replace B2 := s30 _ _ B2 | replace B2 := B2.same s30 | replace B2 := B2.then s30 | replace B2 := B2.trans s30)
        try (first | replace La := s30 _ _ La | replace La := La.same s30 | replace La := La.then s30 | replace La := La.trans s30)
        try (first | replace he1 := s30 _ _ he1 | replace he1 := he1.same s30 | replace he1 := he1.then s30 | replace he1 := he1.trans s30)
        refine ⟨_, hn, _, rfl, by decide, ?_⟩
        intro e2 me2
        generalize e_e2 : upd H30 e2 _ = H31
        have s31 := new_s me2 e_e2
        have he2 := new_h e_e2
        clear e_e2
        try (first | replace hn := s31 _ _ hn | replace hn := hn.same s31 | replace hn := hn.then s31 | replace hn := hn.trans s31)
        try (first | replace hr := s31 _ _ hr | replace hr := hr.same s31 | replace hr := hr.then s31 | replace hr := hr.trans s31)
        try (first | replace hr0 := s31 _ _ hr0 | replace hr0 := hr0.same s31 | replace hr0 := hr0.then s31 | replace hr0 := hr0.trans s31)
        try (first | replace B2 := s31 _ _ B2 | replace B2 := B2.same s31 | replace B2 := B2.then s31 | replace B2 := B2.trans s31)
        try (first | replace La := s31 _ _ La | replace La := La.same s31 | replace La := La.then s31 | replace La := La.trans s31)
        try (first | replace he1 := s31 _ _ he1 | replace he1 := he1.same s31 | replace he1 := he1.then s31 | replace he1 := he1.trans s31)
        refine mk_lex (zs := []) v1 v3 (.inl (.inl (.inl he2))) (by decide) (fun z h => by cases h) fun x2 H32 fb wb s32 o4 Lb => ?_
        obtain rfl := emp o4
        try (first | replace hn := s32 _ _ hn | replace hn := hn.same s32 | replace hn := hn.then s32 | replace hn := hn.trans s32)
        try (first | replace hr := s32 _ _ hr | replace hr := hr.same s32 | replace hr := hr.then s32 | replace hr := hr.trans s32)
        try (first | replace hr0 := s32 _ _ hr0 | replace hr0 := hr0.same s32 | replace hr0 := hr0.then s32 | replace hr0 := hr0.trans s32)
        try (first | replace B2 := s32 _ _ B2 | replace B2 := B2.same s32 | replace B2 := B2.then s32 | replace B2 := B2.trans s32)
        try (first | replace La := s32 _ _ La | replace La := La.same s32 | replace La := La.then s32 | replace La := La.trans s32)
        try (first | replace he1 := s32 _ _ he1 | replace he1 := he1.same s32 | replace he1 := he1.then s32 | replace he1 := he1.trans s32)
        try (first | replace he2 := s32 _ _ he2 | replace he2 := he2.same s32 | replace he2 := he2.then s32 | replace he2 := he2.trans s32)
        refine ⟨_, hn, _, rfl, ?_⟩
        refine mk_lex (zs := []) v1 v3 (hd _) (by decide) (fun z h => by cases h) fun x3 H33 fc wc s33 o5 Lc => ?_
        obtain rfl := emp o5
        try (first | replace hn := s33 _ _ hn | replace hn := hn.same s33 | replace hn := hn.then s33 | replace hn := hn.trans s33)
        try (first | replace hr := s33 _ _ hr | replace hr := hr.same s33 | replace hr := hr.then s33 | replace hr := hr.trans s33)
        try (first | replace hr0 := s33 _ _ hr0 | replace hr0 := hr0.same s33 | replace hr0 := hr0.then s33 | replace hr0 := hr0.trans s33)
        try (first | replace B2 := s33 _ _ B2 | replace B2 := B2.same s33 | replace B2 := B2.then s33 | replace B2 := B2.trans s33)
        try (first | replace La := s33 _ _ La | replace La := La.same s33 | replace La := La.then s33 | replace La := La.trans s33)
        try (first | replace he1 := s33 _ _ he1 | replace he1 := he1.same s33 | replace he1 := he1.then s33 | replace he1 := he1.trans s33)
        try (first | replace he2 := s33 _ _ he2 | replace he2 := he2.same s33 | replace he2 := he2.then s33 | replace he2 := he2.trans s33)
        try (first | replace Lb := s33 _ _ Lb | replace Lb := Lb.same s33 | replace Lb := Lb.then s33 | replace Lb := Lb.trans s33)
        obtain ⟨d2, g2, i2⟩ := Lb.ins
        obtain ⟨d3, g3, i3⟩ := Lc.ins
        refine ⟨d2, d3, g2, i2, g3, i3, _, _, _, _, _, _, _, _, rfl, Lb, Lc, _, rfl, ?_⟩
        rw [decide_eq_true rfl, decide_eq_true rfl, if_neg (by decide)]
        refine k1 _ _ ?_
        clear k1
        refine seqI fun K1 k1 => ?_
        walk_at "rd"
        refine ⟨_, hn, _, rfl, n, rfl, by decide, ?_⟩
        refine mk_lex (zs := []) (by omega) (by omega) (hd _) (by decide) (fun z h => by cases h) fun x4 H34 fd' wd s34 o6 Ld => ?_
        try (first | replace hn := s34 _ _ hn | replace hn := hn.same s34 | replace hn := hn.then s34 | replace hn := hn.trans s34)
        try (first | replace hr := s34 _ _ hr | replace hr := hr.same s34 | replace hr := hr.then s34 | replace hr := hr.trans s34)
        try (first | replace hr0 := s34 _ _ hr0 | replace hr0 := hr0.same s34 | replace hr0 := hr0.then s34 | replace hr0 := hr0.trans s34)
        try (first | replace B2 := s34 _ _ B2 | replace B2 := B2.same s34 | replace B2 := B2.then s34 | replace B2 := B2.trans s34)
        refine ⟨_, hn, _, rfl, ?_⟩
        refine mk_lex (zs := []) v1 v3 (hd _) (by decide) (fun z h => by cases h) fun x5 H35 fe we s35 o7 Le => ?_
        try (first | replace hn := s35 _ _ hn | replace hn := hn.same s35 | replace hn := hn.then s35 | replace hn := hn.trans s35)
        try (first | replace hr := s35 _ _ hr | replace hr := hr.same s35 | replace hr := hr.then s35 | replace hr := hr.trans s35)
        try (first | replace hr0 := s35 _ _ hr0 | replace hr0 := hr0.same s35 | replace hr0 := hr0.then s35 | replace hr0 := hr0.trans s35)
        try (first | replace B2 := s35 _ _ B2 | replace B2 := B2.same s35 | replace B2 := B2.then s35 | replace B2 := B2.trans s35)
        try (first | replace Ld := s35 _ _ Ld | replace Ld := Ld.same s35 | replace Ld := Ld.then s35 | replace Ld := Ld.trans s35)
        obtain ⟨d4, g4, i4⟩ := Ld.ins
        obtain ⟨d5, g5, i5⟩ := Le.ins
        refine ⟨d4, d5, g4, i4, g5, i5, _, _, _, _, _, _, _, _, rfl, Ld, Le, _, rfl, ?_⟩
        rw [decide_eq_false (by omega : ¬ 1 + n % 3 = n), Bool.false_and, if_neg (by decide)]
        refine k1 _ _ ?_
        clear k1
        walk_at "rd"
        refine ⟨_, hn, _, rfl, _, hr, _, rfl, b, n, r0, l0, rfl, B2, v1, v3, hr0, ll0, hw0, fun H36 _ => q H36⟩
      by_cases e : n = n2
      · rw [if_pos (by rw [e])]
        exact go2
      rw [if_neg (fun h => e (V.int.inj h))]
      refine ⟨_, hl, _, rfl, _, hl, _, rfl, _, rfl, _, rfl, dx, dy, fl, hx, gl, hy, _, _, _, _, _, _, _, _, rfl, Lx, Ly, _, rfl, ?_⟩
      rw [decide_eq_false e, Bool.false_and, if_neg (by decide)]
      refine ⟨_, hl, _, rfl, _, hl, _, rfl, _, rfl, _, rfl, dy, dx, gl, hy, fl, hx, _, _, _, _, _, _, _, _, rfl, Ly, Lx, _, rfl, ?_⟩
      rw [decide_eq_false (fun h => e h.symm), Bool.false_and, if_neg (by decide)]
      exact go2
    refine ⟨rfl, ite_i (fun e => ?_) (fun _ => go _ (Same.refl _))⟩
    have e := V.int.inj e
    refine ⟨_, hn, _, rfl, pr, r0, r1, ⟨pl, pf, x, y, f0, f1, n, n2, ys0, ws, ys1, us⟩, l0, l1, rfl, t, e.symm, hr, hr0, hr1, w0, w1, by omega, by omega, o1, ?_, fun H27 s27 => ⟨_, rfl, ?_⟩⟩
    · exact e ▸ o2
    rw [if_neg (by decide)]
    exact go _ s27
end
def d_f_Version_MU_initU : He.DefD := ⟨("Version", some "__init__"), "__init__", "Version.__init__", defArgs s_Version_MU_initU, defBody s_Version_MU_initU, defScope s_Version_MU_initU, [], []⟩
def d_f_Lexicon_MU_initU : He.DefD := ⟨("Lexicon", some "__init__"), "__init__", "Lexicon.__init__", defArgs s_Lexicon_MU_initU, defBody s_Lexicon_MU_initU, defScope s_Lexicon_MU_initU, [.adr (He.dflAt ("Lexicon", some "__init__") 0)], []⟩
def d_f_Lexicon_MU_getitemU : He.DefD := ⟨("Lexicon", some "__getitem__"), "__getitem__", "Lexicon.__getitem__", defArgs s_Lexicon_MU_getitemU, defBody s_Lexicon_MU_getitemU, defScope s_Lexicon_MU_getitemU, [], []⟩
def d_f_Lexicon_MU_iterU : He.DefD := ⟨("Lexicon", some "__iter__"), "__iter__", "Lexicon.__iter__", defArgs s_Lexicon_MU_iterU, defBody s_Lexicon_MU_iterU, defScope s_Lexicon_MU_iterU, [], []⟩
def d_f_Lexicon_MU_lenU : He.DefD := ⟨("Lexicon", some "__len__"), "__len__", "Lexicon.__len__", defArgs s_Lexicon_MU_lenU, defBody s_Lexicon_MU_lenU, defScope s_Lexicon_MU_lenU, [], []⟩
def d_f_Lexicon_MU_containsU : He.DefD := ⟨("Lexicon", some "__contains__"), "__contains__", "Lexicon.__contains__", defArgs s_Lexicon_MU_containsU, defBody s_Lexicon_MU_containsU, defScope s_Lexicon_MU_containsU, [], []⟩
def d_f_Lexicon_MU_eqU : He.DefD := ⟨("Lexicon", some "__eq__"), "__eq__", "Lexicon.__eq__", defArgs s_Lexicon_MU_eqU, defBody s_Lexicon_MU_eqU, defScope s_Lexicon_MU_eqU, [], []⟩
def d_f_Lexicon_MU_andU : He.DefD := ⟨("Lexicon", some "__and__"), "__and__", "Lexicon.__and__", defArgs s_Lexicon_MU_andU, defBody s_Lexicon_MU_andU, defScope s_Lexicon_MU_andU, [], []⟩
def d_f_Lexicon_MU_orU : He.DefD := ⟨("Lexicon", some "__or__"), "__or__", "Lexicon.__or__", defArgs s_Lexicon_MU_orU, defBody s_Lexicon_MU_orU, defScope s_Lexicon_MU_orU, [], []⟩
def d_f_Lexicon_M_find : He.DefD := ⟨("Lexicon", some "find"), "find", "Lexicon.find", defArgs s_Lexicon_M_find, defBody s_Lexicon_M_find, defScope s_Lexicon_M_find, [], []⟩
def d_f_codes : He.DefD := ⟨("codes", none), "codes", "codes", defArgs s_codes, defBody s_codes, defScope s_codes, [], []⟩
def d_f_plain_codes : He.DefD := ⟨("plain_codes", none), "plain_codes", "plain_codes", defArgs s_plain_codes, defBody s_plain_codes, defScope s_plain_codes, [], []⟩
def d_f_is_integer : He.DefD := ⟨("is_integer", none), "is_integer", "is_integer", defArgs s_is_integer, defBody s_is_integer, defScope s_is_integer, [], []⟩
def d_f_is_word : He.DefD := ⟨("is_word", none), "is_word", "is_word", defArgs s_is_word, defBody s_is_word, defScope s_is_word, [], []⟩
def d_f_cut_form : He.DefD := ⟨("cut_form", none), "cut_form", "cut_form", defArgs s_cut_form, defBody s_cut_form, defScope s_cut_form, [], []⟩
def d_f__law_bag : He.DefD := ⟨("_law_bag", none), "_law_bag", "_law_bag", defArgs s__law_bag, defBody s__law_bag, defScope s__law_bag, [], []⟩
def d_f__law_pick : He.DefD := ⟨("_law_pick", none), "_law_pick", "_law_pick", defArgs s__law_pick, defBody s__law_pick, defScope s__law_pick, [], []⟩
def d_f__law_integer : He.DefD := ⟨("_law_integer", none), "_law_integer", "_law_integer", defArgs s__law_integer, defBody s__law_integer, defScope s__law_integer, [], []⟩
def d_f__law_codes : He.DefD := ⟨("_law_codes", none), "_law_codes", "_law_codes", defArgs s__law_codes, defBody s__law_codes, defScope s__law_codes, [], []⟩
def d_f__law_cut : He.DefD := ⟨("_law_cut", none), "_law_cut", "_law_cut", defArgs s__law_cut, defBody s__law_cut, defScope s__law_cut, [], []⟩
def d_f__law_distinct : He.DefD := ⟨("_law_distinct", none), "_law_distinct", "_law_distinct", defArgs s__law_distinct, defBody s__law_distinct, defScope s__law_distinct, [], []⟩
def d_f__law_typed : He.DefD := ⟨("_law_typed", none), "_law_typed", "_law_typed", defArgs s__law_typed, defBody s__law_typed, defScope s__law_typed, [], []⟩
def d_f__law_row : He.DefD := ⟨("_law_row", none), "_law_row", "_law_row", defArgs s__law_row, defBody s__law_row, defScope s__law_row, [], []⟩
def d_f__law_odd : He.DefD := ⟨("_law_odd", none), "_law_odd", "_law_odd", defArgs s__law_odd, defBody s__law_odd, defScope s__law_odd, [], []⟩
def d_f__law_lexicon_made : He.DefD := ⟨("_law_lexicon_made", none), "_law_lexicon_made", "_law_lexicon_made", defArgs s__law_lexicon_made, defBody s__law_lexicon_made, defScope s__law_lexicon_made, [], []⟩
def d_f__law_refusals : He.DefD := ⟨("_law_refusals", none), "_law_refusals", "_law_refusals", defArgs s__law_refusals, defBody s__law_refusals, defScope s__law_refusals, [], []⟩
def d_f__law_is : He.DefD := ⟨("_law_is", none), "_law_is", "_law_is", defArgs s__law_is, defBody s__law_is, defScope s__law_is, [], []⟩
def d_f__law_finds : He.DefD := ⟨("_law_finds", none), "_law_finds", "_law_finds", defArgs s__law_finds, defBody s__law_finds, defScope s__law_finds, [], []⟩
def d_f__law_joined : He.DefD := ⟨("_law_joined", none), "_law_joined", "_law_joined", defArgs s__law_joined, defBody s__law_joined, defScope s__law_joined, [], []⟩
def d_f__law_forms : He.DefD := ⟨("_law_forms", none), "_law_forms", "_law_forms", defArgs s__law_forms, defBody s__law_forms, defScope s__law_forms, [], []⟩
def d_f__law_built : He.DefD := ⟨("_law_built", none), "_law_built", "_law_built", defArgs s__law_built, defBody s__law_built, defScope s__law_built, [], []⟩
def d_f__law_all_found : He.DefD := ⟨("_law_all_found", none), "_law_all_found", "_law_all_found", defArgs s__law_all_found, defBody s__law_all_found, defScope s__law_all_found, [], []⟩
def d_f_law : He.DefD := ⟨("law", none), "law", "law", defArgs s_law, defBody s_law, defScope s_law, [], []⟩
def fn : List He.DefD := [d_f_Version_MU_initU, d_f_Lexicon_MU_initU, d_f_Lexicon_MU_getitemU, d_f_Lexicon_MU_iterU, d_f_Lexicon_MU_lenU, d_f_Lexicon_MU_containsU, d_f_Lexicon_MU_eqU, d_f_Lexicon_MU_andU, d_f_Lexicon_MU_orU, d_f_Lexicon_M_find, d_f_codes, d_f_plain_codes, d_f_is_integer, d_f_is_word, d_f_cut_form, d_f__law_bag, d_f__law_pick, d_f__law_integer, d_f__law_codes, d_f__law_cut, d_f__law_distinct, d_f__law_typed, d_f__law_row, d_f__law_odd, d_f__law_lexicon_made, d_f__law_refusals, d_f__law_is, d_f__law_finds, d_f__law_joined, d_f__law_forms, d_f__law_built, d_f__law_all_found, d_f_law]
def d_BadText : FxH.InD := ⟨"BadText", "place", "BadText.__init__", inClass (top 4) 0⟩
theorem bd_BadText : ∀ (fd : FuncData) (p1 p2 : Pos), fd.params = xA d_BadText.f p1 p2 → fd.defaults = .none → ∀ (u1 u2 : Value), bindArgs fd ⟨[u1, u2], []⟩ = pure [(("self" : Str), u1), (d_BadText.f, u2)] := fun fd p1 p2 e1 e2 u1 u2 => by
  obtain ⟨n1, n2, n3, n4, n5, n6, n7, n8, n9, n10, n11, n12, n13, n14, n15⟩ := fd
  dsimp only at e1 e2
  subst e1 e2
  rfl
def d_BadVersion : FxH.InD := ⟨"BadVersion", "version", "BadVersion.__init__", inClass (top 3) 0⟩
theorem bd_BadVersion : ∀ (fd : FuncData) (p1 p2 : Pos), fd.params = xA d_BadVersion.f p1 p2 → fd.defaults = .none → ∀ (u1 u2 : Value), bindArgs fd ⟨[u1, u2], []⟩ = pure [(("self" : Str), u1), (d_BadVersion.f, u2)] := fun fd p1 p2 e1 e2 u1 u2 => by
  obtain ⟨n1, n2, n3, n4, n5, n6, n7, n8, n9, n10, n11, n12, n13, n14, n15⟩ := fd
  dsimp only at e1 e2
  subst e1 e2
  rfl
def d_BadWord : FxH.InD := ⟨"BadWord", "word", "BadWord.__init__", inClass (top 5) 0⟩
theorem bd_BadWord : ∀ (fd : FuncData) (p1 p2 : Pos), fd.params = xA d_BadWord.f p1 p2 → fd.defaults = .none → ∀ (u1 u2 : Value), bindArgs fd ⟨[u1, u2], []⟩ = pure [(("self" : Str), u1), (d_BadWord.f, u2)] := fun fd p1 p2 e1 e2 u1 u2 => by
  obtain ⟨n1, n2, n3, n4, n5, n6, n7, n8, n9, n10, n11, n12, n13, n14, n15⟩ := fd
  dsimp only at e1 e2
  subst e1 e2
  rfl
def fi : List FxH.InD := [d_BadText, d_BadVersion, d_BadWord]
def fa : List FxH.Fct := [(He.Fa.free "ValueError").ok,
  (He.Fa.free "all").ok,
  (He.Fa.free "bool").ok,
  (He.Fa.free "int").ok,
  (He.Fa.free "isinstance").ok,
  (He.Fa.free "iter").ok,
  (He.Fa.free "len").ok,
  (He.Fa.free "list").ok,
  (He.Fa.free "ord").ok,
  (He.Fa.free "range").ok,
  (He.Fa.free "repr").ok,
  (He.Fa.free "sorted").ok,
  (He.Fa.free "str").ok,
  (He.Fa.free "tuple").ok,
  (He.Fa.free "super").ok,
  (He.Fa.str "HEX" "0123456789abcdef").ok,
  (He.Fa.str "ROW1" " etaonisrhld").ok,
  (He.Fa.str "ROW2" "cumfpgwybvkxjqz.").ok,
  (He.Fa.str "ROW3" "0123456789\n,'-!?").ok,
  (He.Fa.glo "SIZES").ok,
  (He.Fa.str "WORD_SIGNS" "abcdefghijklmnopqrstuvwxyz0123456789'-").ok,
  (He.Fa.glo "BadText").ok,
  (fun K => FxH.excB K "BadText"),
  (He.Fa.glo "BadVersion").ok,
  (fun K => FxH.excB K "BadVersion"),
  (He.Fa.glo "BadWord").ok,
  (fun K => FxH.excB K "BadWord"),
  (He.Fa.glo "FableError").ok,
  (He.Fa.glo "Lexicon").ok,
  (He.Fa.glo "Version").ok,
  (He.Fa.cls "Lexicon").ok,
  (He.Fa.cls "Version").ok,
  (He.Fa.noat "Lexicon" "forms").ok,
  (He.Fa.noat "Lexicon" "version").ok,
  (He.Fa.noat "Lexicon" "words").ok,
  (He.Fa.noat "Version" "cut").ok,
  (He.Fa.noat "Version" "half").ok,
  (He.Fa.noat "Version" "link").ok,
  (He.Fa.noat "Version" "marks").ok,
  (He.Fa.noat "Version" "number").ok,
  (He.Fa.noat "Version" "scale").ok,
  (He.Fa.noat "Version" "width").ok,
  (fun K => ixB K (He.ga K "Lexicon")),
  (fun K => PySem.W.selfFirst K (He.ga K "Lexicon")),
  (fun K => neB K (He.ga K "Lexicon")),
  (fun K => decide (PySem.W.kitOne K (.ref (He.ga K "BadVersion")) (.type "ValueError") = some true)),
  (fun K => decide (PySem.W.kitOne K (.ref (He.ga K "BadVersion")) (.ref (He.ga K "BadText")) = some false)),
  (fun K => decide (PySem.W.kitOne K (.ref (He.ga K "BadVersion")) (.ref (He.ga K "BadVersion")) = some true)),
  (fun K => decide (PySem.W.kitOne K (.ref (He.ga K "BadVersion")) (.ref (He.ga K "BadWord")) = some false)),
  (fun K => decide (PySem.W.kitOne K (.ref (He.ga K "BadWord")) (.type "ValueError") = some true)),
  (fun K => decide (PySem.W.kitOne K (.ref (He.ga K "BadWord")) (.ref (He.ga K "BadText")) = some false)),
  (fun K => decide (PySem.W.kitOne K (.ref (He.ga K "BadWord")) (.ref (He.ga K "BadVersion")) = some false)),
  (fun K => decide (PySem.W.kitOne K (.ref (He.ga K "BadWord")) (.ref (He.ga K "BadWord")) = some true)),
  (fun K => decide (PySem.W.exmOne K (.ref (He.ga K "BadVersion")) (.ref (He.ga K "FableError")) = some true)),
  (fun K => decide (PySem.W.exmOne K (.ref (He.ga K "BadWord")) (.ref (He.ga K "FableError")) = some true)),
  (fun K => tupsB K "SIZES" sizes),
  (fun K => insB K (He.ga K "Lexicon")),
  (fun K => tupI K (.ref (He.dflAt ("Lexicon", some "__init__") 0 K)) []),
  (He.Fa.mkr "Version").ok,
  (He.Fa.mkr "Lexicon").ok,
  (He.Fa.meth "Lexicon" "__getitem__").ok,
  (He.Fa.meth "Lexicon" "__iter__").ok,
  (He.Fa.meth "Lexicon" "__len__").ok,
  (He.Fa.meth "Lexicon" "__contains__").ok,
  (He.Fa.meth "Lexicon" "__eq__").ok,
  (He.Fa.meth "Lexicon" "__and__").ok,
  (He.Fa.meth "Lexicon" "__or__").ok,
  (He.Fa.meth "Lexicon" "find").ok,
  (He.Fa.glo "codes").ok,
  (He.Fa.glo "plain_codes").ok,
  (He.Fa.glo "is_integer").ok,
  (He.Fa.glo "is_word").ok,
  (He.Fa.glo "cut_form").ok,
  (He.Fa.glo "_law_bag").ok,
  (He.Fa.glo "_law_pick").ok,
  (He.Fa.glo "_law_integer").ok,
  (He.Fa.glo "_law_codes").ok,
  (He.Fa.glo "_law_cut").ok,
  (He.Fa.glo "_law_distinct").ok,
  (He.Fa.glo "_law_typed").ok,
  (He.Fa.glo "_law_row").ok,
  (He.Fa.glo "_law_odd").ok,
  (He.Fa.glo "_law_lexicon_made").ok,
  (He.Fa.glo "_law_refusals").ok,
  (He.Fa.glo "_law_is").ok,
  (He.Fa.glo "_law_finds").ok,
  (He.Fa.glo "_law_joined").ok,
  (He.Fa.glo "_law_forms").ok,
  (He.Fa.glo "_law_built").ok,
  (He.Fa.glo "_law_all_found").ok,
  (He.Fa.glo "law").ok]
abbrev R : PySem.W.OpenRow := PySem.W.OpenLaw.row PySem.Challenge.rw_fablemill_k11_lexicons
def file : Str := PySem.Challenge.pw_fablemill_k11_lexicons.main.file
abbrev hk : PySem.W.Hook := FxH.hookX 6 file fa fn fi
def ob (s : PySem.W.SharedT) : FxH.AlX := FxH.obsXG 6 file fa fn fi (HandSHeadRun.getT s)
theorem ob_eq (s : PySem.W.SharedT) : ob s = hk.obs s.abs := FxH.obsXG_eq (HandSHeadRun.getT_eq s)
def loose : List PySem.Str := (["_wall", "FableError", "BadVersion", "BadText", "BadWord", "ROW1", "ROW2", "ROW3", "codes", "plain_codes", "SIZES", "is_integer"] : List PySem.Str) ++ (["Version", "WORD_SIGNS", "HEX", "is_word", "cut_form", "Lexicon", "_law_bag", "_law_pick", "_law_integer", "_law_codes", "_law_cut", "_law_distinct"] : List PySem.Str) ++ (["_law_typed", "_law_row", "_law_odd", "_law_lexicon_made", "_law_refusals", "_law_is", "_law_finds", "_law_joined", "_law_forms", "_law_built", "_law_all_found"] : List PySem.Str)
theorem run (w : World) : HandSHeadRun.RunEq R (PySem.W.view R.prog [40]) hk ob 20000 loose w := by
  intro os
  kernel_rfl
theorem facts {w : World} {K : PySem.W.Frag} {h : Heap} {mg : Str → Option Value} {f : Addr} (X : K.In h) (G : h.Ns mainGlobals mg) (hfa : mg ("law" : Str) = some (.ref f)) (c : FxH.SaysX file fa fn fi K) :
    ∃ fd : FuncData, (∀ (s : Shared) (v : Value), BindsTo s fd ⟨[v], []⟩ [("_law_script", v)]) ∧ ∀ base : Heap, K.In base → base.Ns mainGlobals mg → FnG PySem.Challenge.pw_fablemill_k11_lexicons w K mg base CX0 10 f fd ["_law_script"] (spLaw K) := by
  have T : Tx PySem.Challenge.pw_fablemill_k11_lexicons K mg := {
    b_ValueError := He.free_ok X G (c.fact 0),
    b_all := He.free_ok X G (c.fact 1),
    b_bool := He.free_ok X G (c.fact 2),
    b_int := He.free_ok X G (c.fact 3),
    b_isinstance := He.free_ok X G (c.fact 4),
    b_iter := He.free_ok X G (c.fact 5),
    b_len := He.free_ok X G (c.fact 6),
    b_list := He.free_ok X G (c.fact 7),
    b_ord := He.free_ok X G (c.fact 8),
    b_range := He.free_ok X G (c.fact 9),
    b_repr := He.free_ok X G (c.fact 10),
    b_sorted := He.free_ok X G (c.fact 11),
    b_str := He.free_ok X G (c.fact 12),
    b_tuple := He.free_ok X G (c.fact 13),
    b_super := He.free_ok X G (c.fact 14),
    c_HEX := cst_str (He.str_ok X G (c.fact 15)),
    c_ROW1 := cst_str (He.str_ok X G (c.fact 16)),
    c_ROW2 := cst_str (He.str_ok X G (c.fact 17)),
    c_ROW3 := cst_str (He.str_ok X G (c.fact 18)),
    c_SIZES := cst_ref (He.glo_ok X G (c.fact 19)),
    c_WORD_SIGNS := cst_str (He.str_ok X G (c.fact 20)),
    g_BadText := He.glo_ok X G (c.fact 21),
    x_BadText := FxH.InD.xc (P := PySem.Challenge.pw_fablemill_k11_lexicons) (d := d_BadText) (c.ini 0).1 (c.ini 0).2 (FOk.mk' (by decide +kernel) (by decide +kernel) (by decide +kernel) (by decide +kernel)) rfl rfl rfl rfl (bd_BadText) (by decide +kernel),
    e_BadText := FxH.excB_ok (c.fact 22),
    g_BadVersion := He.glo_ok X G (c.fact 23),
    x_BadVersion := FxH.InD.xc (P := PySem.Challenge.pw_fablemill_k11_lexicons) (d := d_BadVersion) (c.ini 1).1 (c.ini 1).2 (FOk.mk' (by decide +kernel) (by decide +kernel) (by decide +kernel) (by decide +kernel)) rfl rfl rfl rfl (bd_BadVersion) (by decide +kernel),
    e_BadVersion := FxH.excB_ok (c.fact 24),
    g_BadWord := He.glo_ok X G (c.fact 25),
    x_BadWord := FxH.InD.xc (P := PySem.Challenge.pw_fablemill_k11_lexicons) (d := d_BadWord) (c.ini 2).1 (c.ini 2).2 (FOk.mk' (by decide +kernel) (by decide +kernel) (by decide +kernel) (by decide +kernel)) rfl rfl rfl rfl (bd_BadWord) (by decide +kernel),
    e_BadWord := FxH.excB_ok (c.fact 26),
    g_FableError := He.glo_ok X G (c.fact 27),
    g_Lexicon := He.glo_ok X G (c.fact 28),
    g_Version := He.glo_ok X G (c.fact 29),
    cl_Lexicon := He.cls_ok (c.fact 30),
    cl_Version := He.cls_ok (c.fact 31),
    n_Lexicon_forms := He.noat_ok (c.fact 32),
    n_Lexicon_version := He.noat_ok (c.fact 33),
    n_Lexicon_words := He.noat_ok (c.fact 34),
    n_Version_cut := He.noat_ok (c.fact 35),
    n_Version_half := He.noat_ok (c.fact 36),
    n_Version_link := He.noat_ok (c.fact 37),
    n_Version_marks := He.noat_ok (c.fact 38),
    n_Version_number := He.noat_ok (c.fact 39),
    n_Version_scale := He.noat_ok (c.fact 40),
    n_Version_width := He.noat_ok (c.fact 41),
    ix_Lexicon := c.fact 42,
    sf_Lexicon := c.fact 43,
    ne_Lexicon := c.fact 44,
    k_BadVersion_VE := of_decide_eq_true (c.fact 45),
    k_BadVersion_BadText := of_decide_eq_true (c.fact 46),
    k_BadVersion_BadVersion := of_decide_eq_true (c.fact 47),
    k_BadVersion_BadWord := of_decide_eq_true (c.fact 48),
    k_BadWord_VE := of_decide_eq_true (c.fact 49),
    k_BadWord_BadText := of_decide_eq_true (c.fact 50),
    k_BadWord_BadVersion := of_decide_eq_true (c.fact 51),
    k_BadWord_BadWord := of_decide_eq_true (c.fact 52),
    m_BadVersion := of_decide_eq_true (c.fact 53),
    m_BadWord := of_decide_eq_true (c.fact 54),
    t_SIZES := c.fact 55,
    i_Lexicon := c.fact 56,
    t_dfl := c.fact 57 }
  obtain ⟨fd0, F0⟩ := c.def_ 0 (d := d_f_Version_MU_initU) rfl
  obtain ⟨fd1, F1⟩ := c.def_ 1 (d := d_f_Lexicon_MU_initU) rfl
  obtain ⟨fd2, F2⟩ := c.def_ 2 (d := d_f_Lexicon_MU_getitemU) rfl
  obtain ⟨fd3, F3⟩ := c.def_ 3 (d := d_f_Lexicon_MU_iterU) rfl
  obtain ⟨fd4, F4⟩ := c.def_ 4 (d := d_f_Lexicon_MU_lenU) rfl
  obtain ⟨fd5, F5⟩ := c.def_ 5 (d := d_f_Lexicon_MU_containsU) rfl
  obtain ⟨fd6, F6⟩ := c.def_ 6 (d := d_f_Lexicon_MU_eqU) rfl
  obtain ⟨fd7, F7⟩ := c.def_ 7 (d := d_f_Lexicon_MU_andU) rfl
  obtain ⟨fd8, F8⟩ := c.def_ 8 (d := d_f_Lexicon_MU_orU) rfl
  obtain ⟨fd9, F9⟩ := c.def_ 9 (d := d_f_Lexicon_M_find) rfl
  obtain ⟨fd10, F10⟩ := c.def_ 10 (d := d_f_codes) rfl
  have S_codes : Src K mg "codes" s_codes := ⟨_, fd10, He.glo_ok X G (c.fact 68), F10⟩
  obtain ⟨fd11, F11⟩ := c.def_ 11 (d := d_f_plain_codes) rfl
  have S_plain_codes : Src K mg "plain_codes" s_plain_codes := ⟨_, fd11, He.glo_ok X G (c.fact 69), F11⟩
  obtain ⟨fd12, F12⟩ := c.def_ 12 (d := d_f_is_integer) rfl
  have S_is_integer : Src K mg "is_integer" s_is_integer := ⟨_, fd12, He.glo_ok X G (c.fact 70), F12⟩
  obtain ⟨fd13, F13⟩ := c.def_ 13 (d := d_f_is_word) rfl
  have S_is_word : Src K mg "is_word" s_is_word := ⟨_, fd13, He.glo_ok X G (c.fact 71), F13⟩
  obtain ⟨fd14, F14⟩ := c.def_ 14 (d := d_f_cut_form) rfl
  have S_cut_form : Src K mg "cut_form" s_cut_form := ⟨_, fd14, He.glo_ok X G (c.fact 72), F14⟩
  obtain ⟨fd15, F15⟩ := c.def_ 15 (d := d_f__law_bag) rfl
  have S__law_bag : Src K mg "_law_bag" s__law_bag := ⟨_, fd15, He.glo_ok X G (c.fact 73), F15⟩
  obtain ⟨fd16, F16⟩ := c.def_ 16 (d := d_f__law_pick) rfl
  have S__law_pick : Src K mg "_law_pick" s__law_pick := ⟨_, fd16, He.glo_ok X G (c.fact 74), F16⟩
  obtain ⟨fd17, F17⟩ := c.def_ 17 (d := d_f__law_integer) rfl
  have S__law_integer : Src K mg "_law_integer" s__law_integer := ⟨_, fd17, He.glo_ok X G (c.fact 75), F17⟩
  obtain ⟨fd18, F18⟩ := c.def_ 18 (d := d_f__law_codes) rfl
  have S__law_codes : Src K mg "_law_codes" s__law_codes := ⟨_, fd18, He.glo_ok X G (c.fact 76), F18⟩
  obtain ⟨fd19, F19⟩ := c.def_ 19 (d := d_f__law_cut) rfl
  have S__law_cut : Src K mg "_law_cut" s__law_cut := ⟨_, fd19, He.glo_ok X G (c.fact 77), F19⟩
  obtain ⟨fd20, F20⟩ := c.def_ 20 (d := d_f__law_distinct) rfl
  have S__law_distinct : Src K mg "_law_distinct" s__law_distinct := ⟨_, fd20, He.glo_ok X G (c.fact 78), F20⟩
  obtain ⟨fd21, F21⟩ := c.def_ 21 (d := d_f__law_typed) rfl
  have S__law_typed : Src K mg "_law_typed" s__law_typed := ⟨_, fd21, He.glo_ok X G (c.fact 79), F21⟩
  obtain ⟨fd22, F22⟩ := c.def_ 22 (d := d_f__law_row) rfl
  have S__law_row : Src K mg "_law_row" s__law_row := ⟨_, fd22, He.glo_ok X G (c.fact 80), F22⟩
  obtain ⟨fd23, F23⟩ := c.def_ 23 (d := d_f__law_odd) rfl
  have S__law_odd : Src K mg "_law_odd" s__law_odd := ⟨_, fd23, He.glo_ok X G (c.fact 81), F23⟩
  obtain ⟨fd24, F24⟩ := c.def_ 24 (d := d_f__law_lexicon_made) rfl
  have S__law_lexicon_made : Src K mg "_law_lexicon_made" s__law_lexicon_made := ⟨_, fd24, He.glo_ok X G (c.fact 82), F24⟩
  obtain ⟨fd25, F25⟩ := c.def_ 25 (d := d_f__law_refusals) rfl
  have S__law_refusals : Src K mg "_law_refusals" s__law_refusals := ⟨_, fd25, He.glo_ok X G (c.fact 83), F25⟩
  obtain ⟨fd26, F26⟩ := c.def_ 26 (d := d_f__law_is) rfl
  have S__law_is : Src K mg "_law_is" s__law_is := ⟨_, fd26, He.glo_ok X G (c.fact 84), F26⟩
  obtain ⟨fd27, F27⟩ := c.def_ 27 (d := d_f__law_finds) rfl
  have S__law_finds : Src K mg "_law_finds" s__law_finds := ⟨_, fd27, He.glo_ok X G (c.fact 85), F27⟩
  obtain ⟨fd28, F28⟩ := c.def_ 28 (d := d_f__law_joined) rfl
  have S__law_joined : Src K mg "_law_joined" s__law_joined := ⟨_, fd28, He.glo_ok X G (c.fact 86), F28⟩
  obtain ⟨fd29, F29⟩ := c.def_ 29 (d := d_f__law_forms) rfl
  have S__law_forms : Src K mg "_law_forms" s__law_forms := ⟨_, fd29, He.glo_ok X G (c.fact 87), F29⟩
  obtain ⟨fd30, F30⟩ := c.def_ 30 (d := d_f__law_built) rfl
  have S__law_built : Src K mg "_law_built" s__law_built := ⟨_, fd30, He.glo_ok X G (c.fact 88), F30⟩
  obtain ⟨fd31, F31⟩ := c.def_ 31 (d := d_f__law_all_found) rfl
  have S__law_all_found : Src K mg "_law_all_found" s__law_all_found := ⟨_, fd31, He.glo_ok X G (c.fact 89), F31⟩
  obtain ⟨fd, F⟩ := c.def_ 32 (d := d_f_law) rfl
  have e := hfa.symm.trans (He.glo_ok X G (c.fact 90 (f := (He.Fa.glo "law").ok) rfl))
  cases e
  have b := FunD.bindsA (ps := ["_law_script"]) F fun _ _ _ _ _ _ us hl => match us, hl with | [_], _ => rfl
  refine ⟨fd, fun s v => b s [v] rfl, fun base hK hG => ?_⟩
  have C_is_integer : Cal PySem.Challenge.pw_fablemill_k11_lexicons w K mg base CX0 1 "is_integer" ["thing", "low", "high"] spIsInt := ok_is_integer S_is_integer T 
  have C_Version_MU_initU : CalI PySem.Challenge.pw_fablemill_k11_lexicons w K mg base (L2.CX PySem.Challenge.pw_fablemill_k11_lexicons w) 3 (He.ga K "Version") ["self", "version"] (spVer K) := ok_Version_MU_initU F0 (He.mkr_ok (c.fact 58)) T C_is_integer
  have C_is_word : Cal PySem.Challenge.pw_fablemill_k11_lexicons w K mg base CX0 1 "is_word" ["thing"] spIsWord := ok_is_word S_is_word T 
  have C_codes : Cal PySem.Challenge.pw_fablemill_k11_lexicons w K mg base CX0 1 "codes" ["sign"] spCodes := ok_codes S_codes T 
  have C_plain_codes : Cal PySem.Challenge.pw_fablemill_k11_lexicons w K mg base CX0 2 "plain_codes" ["text"] spPlain := ok_plain_codes S_plain_codes T C_codes
  have C_cut_form : Cal PySem.Challenge.pw_fablemill_k11_lexicons w K mg base (L2.CX PySem.Challenge.pw_fablemill_k11_lexicons w) 5 "cut_form" ["version", "word"] (spCutForm K) := ok_cut_form S_cut_form T C_Version_MU_initU C_is_word C_plain_codes
  have C_Lexicon_MU_initU : CalID PySem.Challenge.pw_fablemill_k11_lexicons w K mg base (L2.CX PySem.Challenge.pw_fablemill_k11_lexicons w) 6 (He.ga K "Lexicon") ["self", "version", "words"] (.ref (He.dflAt ("Lexicon", some "__init__") 0 K)) (spLex K) := ok_Lexicon_MU_initU F1 (He.mkr_ok (c.fact 59)) T C_Version_MU_initU C_cut_form
  have C_Lexicon_MU_getitemU : CalM PySem.Challenge.pw_fablemill_k11_lexicons w K mg base CX0 1 (He.ga K "Lexicon") "__getitem__" ["self", "k"] (spLGet K) := ok_Lexicon_MU_getitemU F2 (He.meth_ok (c.fact 60)) T 
  have C_Lexicon_MU_iterU : CalM PySem.Challenge.pw_fablemill_k11_lexicons w K mg base CX0 1 (He.ga K "Lexicon") "__iter__" ["self"] (spLIter K) := ok_Lexicon_MU_iterU F3 (He.meth_ok (c.fact 61)) T 
  have C_Lexicon_MU_lenU : CalM PySem.Challenge.pw_fablemill_k11_lexicons w K mg base CX0 1 (He.ga K "Lexicon") "__len__" ["self"] (spLLen K) := ok_Lexicon_MU_lenU F4 (He.meth_ok (c.fact 62)) T 
  have C_Lexicon_M_find : CalM PySem.Challenge.pw_fablemill_k11_lexicons w K mg base CX0 6 (He.ga K "Lexicon") "find" ["self", "word"] (spLFind K) := ok_Lexicon_M_find F9 (He.meth_ok (c.fact 67)) T C_is_word C_cut_form
  have C_Lexicon_MU_containsU : CalM PySem.Challenge.pw_fablemill_k11_lexicons w K mg base CX0 7 (He.ga K "Lexicon") "__contains__" ["self", "word"] (spLIn K) := ok_Lexicon_MU_containsU F5 (He.meth_ok (c.fact 63)) T C_Lexicon_M_find
  have C_Lexicon_MU_eqU : CalM PySem.Challenge.pw_fablemill_k11_lexicons w K mg base CX0 1 (He.ga K "Lexicon") "__eq__" ["self", "other"] (spLEq K) := ok_Lexicon_MU_eqU F6 (He.meth_ok (c.fact 64)) T 
  have C_Lexicon_MU_andU : CalM PySem.Challenge.pw_fablemill_k11_lexicons w K mg base CX0 8 (He.ga K "Lexicon") "__and__" ["self", "other"] (spLAnd K) := ok_Lexicon_MU_andU F7 (He.meth_ok (c.fact 65)) T C_Lexicon_MU_initU
  have C_Lexicon_MU_orU : CalM PySem.Challenge.pw_fablemill_k11_lexicons w K mg base CX0 8 (He.ga K "Lexicon") "__or__" ["self", "other"] (spLOr K) := ok_Lexicon_MU_orU F8 (He.meth_ok (c.fact 66)) T C_Lexicon_MU_initU
  have C__law_bag : Cal PySem.Challenge.pw_fablemill_k11_lexicons w K mg base CX0 1 "_law_bag" ["_law_script"] (spBag K) := ok__law_bag S__law_bag T 
  have C__law_pick : Cal PySem.Challenge.pw_fablemill_k11_lexicons w K mg base CX0 1 "_law_pick" ["_law_bag_here", "_law_many"] spPick := ok__law_pick S__law_pick T 
  have C__law_integer : Cal PySem.Challenge.pw_fablemill_k11_lexicons w K mg base CX0 1 "_law_integer" ["_law_thing"] spInteger := ok__law_integer S__law_integer T 
  have C__law_codes : Cal PySem.Challenge.pw_fablemill_k11_lexicons w K mg base CX0 1 "_law_codes" ["_law_sign"] spLCodes := ok__law_codes S__law_codes T 
  have C__law_cut : Cal PySem.Challenge.pw_fablemill_k11_lexicons w K mg base CX0 2 "_law_cut" ["_law_version", "_law_word"] spLCut := ok__law_cut S__law_cut T C__law_codes
  have C__law_distinct : Cal PySem.Challenge.pw_fablemill_k11_lexicons w K mg base CX0 1 "_law_distinct" ["_law_words"] spDist := ok__law_distinct S__law_distinct T 
  have C__law_typed : Cal PySem.Challenge.pw_fablemill_k11_lexicons w K mg base CX0 2 "_law_typed" ["_law_bag_here", "_law_pool"] spTyped := ok__law_typed S__law_typed T C__law_pick
  have C__law_row : Cal PySem.Challenge.pw_fablemill_k11_lexicons w K mg base CX0 3 "_law_row" ["_law_bag_here", "_law_pool"] spRow := ok__law_row S__law_row T C__law_pick C__law_typed
  have C__law_odd : Cal PySem.Challenge.pw_fablemill_k11_lexicons w K mg base CX0 2 "_law_odd" ["_law_bag_here"] (spOdd K) := ok__law_odd S__law_odd T C__law_pick
  have C__law_lexicon_made : CalG PySem.Challenge.pw_fablemill_k11_lexicons w K mg base CX0 8 "_law_lexicon_made" ["_law_number", "_law_words"] (spMade K) := ok__law_lexicon_made S__law_lexicon_made T C_Lexicon_MU_initU C_Lexicon_MU_lenU
  have C__law_refusals : CalG PySem.Challenge.pw_fablemill_k11_lexicons w K mg base CX0 9 "_law_refusals" ["_law_bag_here", "_law_number", "_law_row_here"] (spRef K) := ok__law_refusals S__law_refusals T C__law_odd C__law_pick C__law_lexicon_made
  have C__law_is : Cal PySem.Challenge.pw_fablemill_k11_lexicons w K mg base CX0 5 "_law_is" ["_law_lexicon", "_law_forms_here"] (spIs K) := ok__law_is S__law_is T C_Lexicon_MU_lenU C_Lexicon_MU_iterU C_Lexicon_MU_getitemU
  have C__law_finds : Cal PySem.Challenge.pw_fablemill_k11_lexicons w K mg base CX0 8 "_law_finds" ["_law_lexicon", "_law_forms_here", "_law_number", "_law_word"] (spFinds K) := ok__law_finds S__law_finds T C__law_cut C_Lexicon_M_find C_Lexicon_MU_containsU C__law_integer
  have C__law_joined : Cal PySem.Challenge.pw_fablemill_k11_lexicons w K mg base CX0 9 "_law_joined" ["_law_lexicons", "_law_forms_here", "_law_number", "_law_rows"] (spJoin K) := ok__law_joined S__law_joined T C__law_distinct C_Lexicon_MU_orU C_Lexicon_MU_andU C__law_is C_Lexicon_MU_initU C_Lexicon_MU_eqU C__law_finds
  have C__law_forms : Cal PySem.Challenge.pw_fablemill_k11_lexicons w K mg base CX0 3 "_law_forms" ["_law_number", "_law_row_here"] spForms := ok__law_forms S__law_forms T C__law_cut C__law_distinct
  have C__law_built : Cal PySem.Challenge.pw_fablemill_k11_lexicons w K mg base CX0 8 "_law_built" ["_law_number", "_law_row_here", "_law_way"] (spBuilt K) := ok__law_built S__law_built T C_Lexicon_MU_initU C_Lexicon_MU_eqU
  have C__law_all_found : Cal PySem.Challenge.pw_fablemill_k11_lexicons w K mg base CX0 9 "_law_all_found" ["_law_bag_here", "_law_lexicons", "_law_forms_here", "_law_numbers", "_law_asked"] (spAll K) := ok__law_all_found S__law_all_found T C__law_finds C__law_odd C_Lexicon_M_find C_Lexicon_MU_containsU
  exact ok_law F T C__law_bag C__law_pick C__law_row C__law_built C__law_forms C__law_typed C__law_all_found C__law_is C__law_joined C_Lexicon_MU_eqU C_Lexicon_MU_initU C__law_refusals
end K11
open PySem PySem.W PySem.Calls PyProof.Rows
theorem PySem.Challenge.cw_fablemill_k11_lexicons_holds : PySem.Challenge.rw_fablemill_k11_lexicons.Holds := by
  w_on; o_law
  refine HandSHeadRun.head_any (r := OpenLaw.row PySem.Challenge.rw_fablemill_k11_lexicons) (q := view (OpenLaw.row PySem.Challenge.rw_fablemill_k11_lexicons).prog [40]) (H := K11.hk) (ob := K11.ob) (M := 20000) (loose := K11.loose) (d := HandSHeadRun.topDef (OpenLaw.row PySem.Challenge.rw_fablemill_k11_lexicons).prog 40) (kwd := []) K11.ob_eq
    (by kernel_rfl) (fun s => by kernel_rfl) K11.run (by kernel_rfl) (by kernel_rfl) (by kernel_rfl) (by rfl) (by first | assumption | decide +kernel) (by decide +kernel) ⟨rfl, rfl, rfl, rfl, rfl, by decide +kernel⟩ ?hw ?hc
  case hw => w_witness2
  case hc =>
    refine Fx.walk_ofG (l := PySem.Challenge.rw_fablemill_k11_lexicons) (n := 63) (k := 10) (x := "_law_script") rfl (by decide) (by kernel_rfl) ⟨rfl, by decide, by decide⟩ ?F
    intro w mg fa h Y G hmg0
    obtain ⟨K, KX, c⟩ := Y
    have hmg : mg ("law" : PySem.Str) = some (.ref fa) := by
      have e : (HandSHeadRun.topDef (OpenLaw.row PySem.Challenge.rw_fablemill_k11_lexicons).prog 40).name = ("law" : PySem.Str) := by kernel_rfl
      rw [← e]
      exact hmg0
    obtain ⟨fd, hb, hF⟩ := K11.facts (w := w) KX G hmg c
    exact ⟨K, fd, (K11.spLaw K), KX, hb, fun H a ns hl hS => ⟨a, ns, rfl, hS, Nat.le_trans hl (by decide), fun _ => rfl⟩, hF⟩
