import PyProof.Rows.All
import Wide.All
import OpenK.AllK
import Wide.FinOn
import HandS.Head3
import KE.KExcSuper
import HandS.Exc
import HandS.ExcInit
import PyProof.ExcBaseAll.IndexError
import PyProof.ExcBaseAll.OverflowError
import PyProof.ExcBaseAll.ArithmeticError
import PyProof.ExcBaseAll.LookupError
import PyProof.ExcBaseAll.ValueError
import HandS.ExcField
import HandS.List
import PyProof.P3Statements
import PyProof.ReprRoads
import HandS.Iter
import HandS.SlotsOwn
import HandS.Comp
import HandS.Lambda
import HandS.ExcOwn
import HandS.CallSlots
import HandS.TupAny
import HandS.TupMul
import HandS.Star
import HandS.Deep
import HandS.Gcd
import HandS.Style
import HandS.Text
import HandS.IsInst
import PyProof.WalksMore
import HandS.More
import HandS.Dict
import HandS.IterVal
import KE.GoesEnum
import HandS.NoneIn
import HandS.AnyAll
import HandS.TryMany
import KE.KOpsOwn
import HandS.RaiseMore
import HandS.TupSets
import HandS.Zip
import HandS.HeadHook1
import HandS.Defaults
import HandS.HeadHook4
import HandS.HeadNt
import HandS.HeadWalk
import HandS.Head2
import PyProof.NoPylong
import PySem.Challenge.RW_sourceforms_k73_errors_of_powers
section
set_option Elab.async false
set_option linter.all false
set_option maxRecDepth 100000
set_option maxHeartbeats 2000000
/-! X1: an own exception class, straight over a built-in one or over own ones, whose __init__ says super().__init__(a text) and keeps its argument: its __init__ run. -/
namespace Mn
open PySem PySem.W PySem.Calls PyProof.Rows
open Builtin Builtin.ObjectAttr

/-- a built-in exception class -/
structure XiB (B newId initId : String) (bmB : List Value) : Prop where
  F : ExcBaseFacts B newId initId bmB
  S : StoreFacts B bmB "object.__setattr__" "object"
  X : KxsFacts B initId

section
variable {prog : Program} {w : World} {M : Model} {A : Around} {E : Value → Shared → Prop} {R : Result → Shared → Prop} {h : Heap} {g : Array GenState} {d : Drawn} {t : Nat} {os : OsState} {B newId initId : String} {bmB : List Value}

/-- the bound built-in __init__, called: the args are laid anew -/
theorem xi_super {u e t0 C : Addr} {rest : List Value} {Q : Value → Shared → Prop} {nm q : Str} {N : Addr} {bs bm : List Value} {hdct : Bool} {sn : List Str} {sub : List Value} {ab : Bool} {col : Option Bool} {dd : Option Addr} {k0 k1 k2 k3 k5 : Option Value}
    (b : XiB B newId initId bmB) (hC : h.get? C = some (excClassObj nm q C N bs bm hdct sn sub ab col dd k0 k1 k2 k3 k5 newId)) (he : h.get? e = some (HandSPX.excO C t0)) (hu : h.get? u = some (kxs_mw initId e)) (hrest : rest.length ≤ sizeLine)
    (hq : ∀ h' t1, (∀ b o, b ≠ e → h.get? b = some o → h'.get? b = some o) → h'.get? e = some (HandSPX.excO C t1) → Q .none ⟨h', g, d, t, os⟩) :
    wpAny (model prog w) A (call (.ref u) rest) Q E ⟨h, g, d, t, os⟩ := by
  refine wpAny_call (codeAny_of_tree ?_)
  show wpAny _ A.in1 (callAny (.ref u) ⟨rest, []⟩) _ _ _
  simp only [callAny]
  refine wpAny_bind (wpAny_load hu ?_)
  simp only [kxs_mw, show (Value.type "method-wrapper" == Value.type "method" || Value.type "method-wrapper" == Value.type "builtin_function_or_method" || Value.type "method-wrapper" == Value.type "method-wrapper") = true by decide, if_true]
  refine W.KFB.if_so (by decide) ?_
  refine wpAny_bind (check_bound_init b.F.toExcCallFacts hC he rfl ?_)
  refine wpAny_bind (wpAny_pure (wpAny_pure ?_))
  refine ⟨plainId_quiet b.F.init.plain _, codeAny_builtin b.F.initEntry ?_⟩
  rw [Around.under_plainId b.F.init.plain _]
  wp_walk
  refine hq _ h.objs.size (fun b o hb ho => ?_) ?_
  · rw [Heap.get?_update_other _ _ (Ne.symm hb)]
    exact Heap.get?_push_of_some _ ho
  · rw [Heap.get?_update_self _ (Heap.get?_push_of_some _ he) rfl]
    rfl

/-- self.name = v, no dict yet -/
theorem xi_store {K : Frag} {name : Str} {v : Value} {x C t0 : Addr} {Q : Unit → Shared → Prop} (b : XiB B newId initId bmB) (X : K.In h) (hx : h.get? x = some (HandSPX.excO C t0))
    (hs : findIn K (.ref C) "__setattr__" = some (some (.builtin "object.__setattr__"))) (hp : excOver K C bmB = true) (ht : takerIn K C name = some none) (hh : hasDictIn K C = true)
    (hq : ∀ h' tk dx, (∀ b o, b ≠ x → h.get? b = some o → h'.get? b = some o) → h.objs.size ≤ dx → dx ≠ x → h'.get? x = some { cls := .ref C, dict := some dx, data := .fields #[.ref t0, .none, .none, .none, .bool false, .none] } →
      h'.Ns1 dx (fun y => if y = name then some v else none) → Q () ⟨h', g, d, tk, os⟩) :
    wpAny (model prog w) A (setAttr (.ref x) name v) Q E ⟨h, g, d, t, os⟩ := by
  obtain ⟨cd, hc, hd'⟩ := any_some hh
  have hxs : x ≠ h.objs.size := Nat.ne_of_lt (Heap.lt_size hx)
  refine set_plain (od := none) X ⟨hx, rfl, rfl, trivial⟩ hs (osa_openX (od := none) b.S X ⟨hx, rfl, rfl, trivial⟩ hp ht fun bb => ?_)
  refine wpAny_bind (wpAny_pure (wpAny_bind (instanceDict_exc (C := C) (t := t0) (c2 := .none) hx (looks_clsIn X hc) hd' ?_)))
  show wpAny _ _ (storeInDict h.objs.size (.str name _) name v) _ _ _
  refine HandSPX.store_in_new ?_ ?_
  · exact ⟨_, #[], _, (Heap.get?_update_ne _ _ _ _ hxs.symm).trans (Heap.get?_push_at rfl rfl), rfl, fun e he => absurd he (by simp), fun _ => rfl⟩
  · intro h' tk' hn' hs'
    have hx₁ : (h.push (dictOf [] 0)).get? x = some (HandSPX.excO C t0) := Heap.get?_push_of_some _ hx
    refine hq h' tk' h.objs.size (fun b o hb ho => ?_) (Nat.le_refl _) hxs.symm ?_ hn'
    · exact (hs'.2 b (Nat.ne_of_lt (Heap.lt_size ho))).trans ((Heap.get?_update_ne _ _ _ _ hb).trans (Heap.get?_push_of_some _ ho))
    · exact (hs'.2 x hxs).trans (Heap.get?_update_self _ hx₁ rfl)
end

/-- what the written part K says of the class at C, its __init__ keeping its argument as fld -/
structure XiOk (P : Program) (K : Frag) (C : Addr) (fld : Str) (newId initId : String) (bmB : List Value) (B : String) : Prop where
  ex : ∃ (fI cda cc : Addr) (oc : Value) (od : Option Addr) (osl : Array (Option Value)) (name qual : Str) (a0 a1 : Arg) (scope : Scope) (p0 p1 p2 p3 p4 p5 p6 p7 p8 p9 : Pos) (m : Str) (j : Nat) (dV kV doc pm ct : Value) (an : Option Addr),
    K.lookup fI = some ⟨oc, od, .func (ksFn name qual ⟨[], [a0, a1], none, [], [], none, []⟩ [.Expr (.Call (.Attribute (.Call (.Name "super" p0) [] [] p1) "__init__" p2) [.Constant (.str m) j p3] [] p4) p5, .Assign [.Attribute (.Name a0.arg p6) fld p7] (.Name a1.arg p8) p9] scope dV kV doc pm an (.ref cda) ct cc), osl⟩ ∧
    (p2.endLine == p4.line) = true ∧ codeIn K (.ref cda) qual = true ∧ dV = .none ∧ a0.arg ≠ a1.arg ∧ (a0.arg == ("__debug__" : Str)) = false ∧ (a1.arg == ("__debug__" : Str)) = false ∧
    scope.kind = .function ∧ scope.isCoroutine = false ∧ scope.isGenerator = false ∧ (∀ x ∈ scope.names, x.2 ≠ .cell) ∧
    scope.names.lookup a0.arg = some .local ∧ scope.names.lookup a1.arg = some .local ∧ scope.names.lookup ("super" : Str) = some .globalImplicit ∧ scope.names.lookup ("__class__" : Str) = some .free ∧
    (∃ ccl cld csl, K.lookup cc = some ⟨ccl, cld, .cell (some (.ref C)), csl⟩) ∧
    (∃ ccl cdd vs ccs file tf, K.lookup cda = some ⟨ccl, cdd, .fields vs, ccs⟩ ∧ vs[2]? = some (.str file tf) ∧ ((P.main.file : Str) == file) = true) ∧
    findIn K (.ref C) "__init__" = some (some (.ref fI)) ∧ typeIn K (.ref fI) = some (.type "function")
  init : excInitIn K C bmB newId = true
  over : excOver K C bmB = true
  dict : hasDictIn K C = true
  taker : takerIn K C fld = some none
  sa : findIn K (.ref C) "__setattr__" = some (some (.builtin "object.__setattr__"))
  sup : ks_superIn K C C "__init__" = some (some (.builtin initId))
  self : mroIn K C (.ref C) = some true
  exC : subIn K (.ref C) (.type "BaseException") = some true
  subB : subIn K (.ref C) (.type B) = some true
  tyC : typeIn K (.ref C) = some (.type "type")
  kC : keepIn K (.ref C) = true
  op : nsIn K cStatics "thirdparty.any" = some none
  top : (P.main.scope.names.lookup ("super" : Str)).isSome = false

section
variable {prog : Program} {w : World} {A : Around} {E : Value → Shared → Prop} {R : Result → Shared → Prop} {h : Heap} {g : Array GenState} {d : Drawn} {t : Nat} {os : OsState} {B newId initId : String} {bmB : List Value} {K : Frag} {C : Addr} {fld : Str} {mg mb : Str → Option Value}
/-- the __init__, run -/
theorem xi_run (b : XiB B newId initId bmB) (T : XiOk prog K C fld newId initId bmB B) (X : K.In h) (glob : h.Ns mainGlobals mg) (blt : h.Ns builtinsNs mb) (hmb : mb "super" = some (.type "super")) (lim : h.NoLimit) (hmg : mg "super" = none) (hroom : A.depth < recursionLimit)
    {e t0 : Addr} {u : Value} (he : h.get? e = some (HandSPX.excO C t0)) {fI : Addr} (hKe : K.lookup e = none) (hfI : findIn K (.ref C) "__init__" = some (some (.ref fI)))
    (hq : ∀ h' tk dx t1, (∀ b o, b ≠ e → h.get? b = some o → h'.get? b = some o) → h.objs.size ≤ dx → dx ≠ e → h'.get? e = some { cls := .ref C, dict := some dx, data := .fields #[.ref t1, .none, .none, .none, .bool false, .none] } →
      h'.Ns1 dx (fun y => if y = fld then some u else none) → R (.ok (.ret .none)) ⟨h', g, d, tk, os⟩) :
    codeAny (model prog w) A (.call (.ref fI) ⟨[.ref e, u], []⟩) R ⟨h, g, d, t, os⟩ := by
  obtain ⟨fI', cda, cc, oc, od, osl, name, qual, a0, a1, scope, p0, p1, p2, p3, p4, p5, p6, p7, p8, p9, m, j, dV, kV, doc, pm, ct, an, lk, hline, hcd, hdV, hne, hd0, hd1, hk, hco, hgen, hcell, hl0, hl1, hks, hkc, ⟨ccl, cld, csl, hcc⟩, ⟨ccl2, cdd, vs, ccs, file, tf, hcda, hvs, hfile⟩, hfI', _⟩ := T.ex
  have eI : fI' = fI := by
    rw [hfI] at hfI'
    injection hfI' with z
    injection z with z
    injection z with z
    exact z.symm
  subst eI
  subst hdV
  obtain ⟨nm, N', qn, bs, bm, hdct, sn, sub, ab, col, dd, k0, k1, k2, k3, k5, hC, hT⟩ := excInit_of X T.init
  have hbind : BindsTo ⟨h, g, d, t, os⟩ (ksFn name qual ⟨[], [a0, a1], none, [], [], none, []⟩ [.Expr (.Call (.Attribute (.Call (.Name "super" p0) [] [] p1) "__init__" p2) [.Constant (.str m) j p3] [] p4) p5, .Assign [.Attribute (.Name a0.arg p6) fld p7] (.Name a1.arg p8) p9] scope .none kV doc pm an (.ref cda) ct cc) ⟨[.ref e, u], []⟩ [(a0.arg, .ref e), (a1.arg, u)] := by
    refine BindsTo.of_eq ?_
    have e3 : notAStandIn Value.none = pure () := by first | rfl | (unfold notAStandIn; rfl)
    have n1 : (a1.arg == a0.arg) = false := by simpa using fun z => hne z.symm
    unfold bindArgs
    simp [seqItems?, e3, List.lookup, n1, List.filterMap]
  refine ks_codeAny_call_defAt (X _ _ lk |> fun _ => hroom) (X _ _ lk) rfl lim (codeRec_of X hcd) rfl hbind hcell (fun y hy => ?_) (fun h₁ hns hk₁ => ?_) hco hgen hk
  · rcases List.mem_cons.mp hy with rfl | hy
    · exact hl0
    · rcases List.mem_cons.mp hy with rfl | hy
      · exact hl1
      · cases hy
  have X1 : K.In h₁ := X.keeps hk₁
  have hv0 : (fun x => ([(a0.arg, Value.ref e), (a1.arg, u)] : List (Str × Value)).reverse.lookup x) a0.arg = some (.ref e) := by
    have n1 : (a0.arg == a1.arg) = false := by simpa using hne
    show ([(a1.arg, u), (a0.arg, Value.ref e)] : List (Str × Value)).lookup a0.arg = _
    simp [List.lookup, n1]
  have hv1 : (fun x => ([(a0.arg, Value.ref e), (a1.arg, u)] : List (Str × Value)).reverse.lookup x) a1.arg = some u := by
    show ([(a1.arg, u), (a0.arg, Value.ref e)] : List (Str × Value)).lookup a1.arg = _
    simp [List.lookup]
  have he1 : h₁.get? e = some (HandSPX.excO C t0) := hk₁ _ _ he
  have hC1 := hk₁ _ _ hC
  have heC : e ≠ C := fun z => by
    rw [z, hC] at he
    cases he
  have hcd1 : clsIn K C = some { name := nm, bases := bs, mro := .ref C :: bm, ns := N', qualname := qn, hasDict := hdct, slotNames := sn, subclasses := sub, abstract := ab, collection := col, hasDel := false } := by
    obtain ⟨cd, hc, _⟩ := any_some T.dict
    rw [hc]
    unfold clsIn at hc
    split at hc
    · rename_i ho
      have z := X _ _ ho
      rw [hC] at z
      cases z
      exact hc.symm
    · cases hc
  have hint : ∀ env : Env, env.scope.kind = .function → interactive env = false := fun env z => by
    unfold interactive
    simp [z]
  have hev : ∀ env : Env, eval (.Call (.Attribute (.Call (.Name "super" p0) [] [] p1) "__init__" p2) [.Constant (.str m) j p3] [] p4) env = (do
      let ov ← attributeBase (.Call (.Name "super" p0) [] [] p1) "__init__" env (eval (.Call (.Name "super" p0) [] [] p1) env)
      standAt p2.atName
      let (f, first) ← holding [ov] (getMethod ov "__init__" (do return (← importBound (.Call (.Name "super" p0) [] [] p1) env).getD true))
      callWith p4 f first (backTo p4 (starEach [.Constant (.str m) j p3] env)) []) := fun env => by
    rw [arm_eval_Call]
    have e1 : methodCallForm ([Expr.Constant (.str m) j p3].length + ([] : List Keyword).length) (backTo p4 (starEach [.Constant (.str m) j p3] env)) (backToKw p4 (keywordEach [] env)) = true := by rfl
    unfold methodCall methodCallPos calleeOf
    rw [e1]
    simp only [hline, Bool.or_true, if_true, pure_bind]
    rfl
  refine ks_wpAt_execs_cons (ks_wpAt_Expr_any (hi := hint _ hk) (ks_wpAt_MethodCall (he := hev _) (ks_wpAt_super_base (file := file) (tf := tf) (vs := vs) hks hkc (by decide) rfl (X1 _ _ lk) rfl rfl rfl (X1 _ _ hcda) rfl hvs hfile T.top ?_)))
  refine ks_loadName_global hk hks (loadGlobal_builtin (glob.keeps hk₁) hmg (blt.keeps hk₁) hmb ⟨rfl, ?_⟩)
  refine wpAny_loadName_free hk hkc rfl ⟨_, X1 _ _ hcc, rfl⟩ ?_
  refine wpAny_loadName_local hk hl0 hns hv0 ?_
  refine ks_wpAny_isType_cls hC1 rfl ⟨rfl, ?_⟩
  refine ks_wpAny_call_super hC1 rfl he1 rfl (fun c e => nomatch e) (looks_mroIn X1 T.self) (fun h2 e2 k2 => ?_)
  have X2 : K.In h2 := X1.keeps k2
  have he2 := k2 _ _ he1
  have hC2 := k2 _ _ hC1
  have hm : alongIn K "__init__" (((Value.ref C :: bm).dropWhile (· != .ref C)).drop 1) = some (some (.builtin initId)) := by
    have z := T.sup
    unfold ks_superIn at z
    rw [hcd1] at z
    exact z
  have I2 : InstAt h2 e (HandSPX.excO C t0) C none := ⟨he2, rfl, rfl, trivial⟩
  have hI : Looks (model prog w) h2 (isInstance (.ref e) (.type B)) true := I2.type.andThen (looks_subIn X2 T.subB)
  refine kxs_getMethod b.X e2 (looks_opaque X2 T.op) (l₀ := .ref C :: bm) ?_ rfl X2 hm hI heC (by decide) ?_
  · exact fun A Q E s k q => wpAny_bind ((looks_clsIn X2 hcd1) A _ E s k (wpAny_pure q))
  have k3 : ∀ b o, h2.get? b = some o → (h2.push (kxs_mw initId e)).get? b = some o := fun b o z => Heap.get?_push_of_some _ z
  refine kxs_callWith (i := initId) (x := e) rfl (evalArgs_plain (spliced_cons (wpAny_Constant_str (x := m) (k := j) (pos := p3) (spliced_nil ⟨Heap.get?_push_at rfl rfl, ?_⟩))))
  refine xi_super (e := e) (C := C) b (k3 _ _ hC2) (k3 _ _ he2) (Heap.get?_push_at rfl rfl) (by show 1 ≤ sizeLine; rw [sizeLine_eq]; omega) (fun h4 t1 k4 e4 => ?_)
  -- self.f = arg
  have k04 : ∀ b o, b ≠ e → h₁.get? b = some o → h4.get? b = some o := fun b o nb z => k4 b o nb (k3 _ _ (k2 _ _ z))
  have nL : h.objs.size ≠ e := fun z => Nat.lt_irrefl _ (z ▸ Heap.lt_size he)
  have ns4 := hns.at fun o z => k04 _ o nL z
  have X4 : K.In h4 := fun a o z => by
    by_cases q : a = e
    · subst q
      rw [hKe] at z
      cases z
    · exact k04 _ _ q (X1 _ _ z)
  refine ks_wpAt_execs_cons (wpAt_of_wpAny (plainObj_wpAny_Assign_Attribute (wpAny_Name (wpAny_loadName_local hk hl1 ns4 hv1 (wpAny_Name (wpAny_loadName_local hk hl0 ns4 hv0 ?_) hd0)) hd1)))
  refine xi_store b X4 e4 T.sa T.over T.taker T.dict (fun h5 tk dx k5' sz ne e5 ns5 => ?_)
  refine wpAt_of_wpAny (wpAny_execs_nil ?_)
  refine hq h5 tk dx t1 (fun bb o nb z => k5' bb o nb (k04 _ _ nb (hk₁ _ _ z))) ?_ ne e5 ns5
  have s1 : h.objs.size < h₁.objs.size := by
    obtain ⟨oL, _, _, hL, _⟩ := hns
    exact Heap.lt_size hL
  have s2 : h₁.objs.size < h2.objs.size := Heap.lt_size e2
  have s4 : h2.objs.size < h4.objs.size := Heap.lt_size (k4 _ _ (Nat.ne_of_gt (Heap.lt_size he2)) (Heap.get?_push_at (h := h2) (o := kxs_mw initId e) rfl rfl))
  omega
end
end Mn
end

section
set_option Elab.async false
set_option linter.all false
set_option maxRecDepth 100000
set_option maxHeartbeats 2000000
/-! X2: such an exception, made and raised. -/
namespace Mn
open PySem PySem.Spec PyProof.Rows L2

section
variable {X : Cx} {B newId initId : String} {bmB : List Value} {C : Addr} {fld x : Str} {e : Expr} {ta : TA} {p pos : Pos}
/-- C(e), C such a class -/
def tXi (C : Addr) (fld : Str) (ta : TA) : L2.St → Hp → XK → Prop := fun σ H Q => ta σ H fun vs H1 => ∃ v, vs = [v] ∧ ∀ dx, H1 dx = none → Q (.ref C) (some dx) (upd H1 dx (.xd [(fld, v)]))
theorem pmk_xi (b : XiB B newId initId bmB) (T : XiOk X.prog X.K C fld newId initId bmB B) (hsup : X.mg "super" = none) (hr : Room 1 X.A) (hg : Gl X x) (hm : X.mg x = some (.ref C)) (ha : PA X [e] ta)
    (hst : starEach [e] X.env = (false, eval e X.env) :: starEach [] X.env) (hdb : (x == ("__debug__" : Str)) = false) :
    PMk X (.Call (.Name x p) [e] [] pos) (tXi C fld ta) := by
  intro pins s σ H Q I h
  obtain ⟨fI, cda, cc, oc, od, osl, name, qual, a0, a1, scope, p0, p1, p2, p3, p4, p5, p6, p7, p8, p9, m, j, dV, kV, doc, pm, ct, an, lk, _, _, _, _, _, _, _, _, _, _, _, _, _, _, _, _, hfI, tI⟩ := T.ex
  refine wpAny_Call_Name_kw (ld_glob I hg hm ?_ hdb)
  refine PySem.W.callWith_K (h₀ := X.base) I.ok.mod.kin T.kC (thn (ha.run pos pins s σ H _ (I.tok _) h) fun us s1 ⟨vs, H1, I1, r1, q1⟩ => ⟨I1.kIn, ?_⟩) hst rfl
  obtain ⟨v, rfl, q1⟩ := q1
  show wpAny _ _ (call (.ref C) us) _ _ _
  cases r1 with
  | @cons _ u _ us' rv rn =>
  cases rn
  obtain ⟨hp, g, dr, tk, os⟩ := s1
  have hsz : hp.objs.size ≤ hp.objs.size + 1 := Nat.le_succ _
  have kk : ∀ b o, hp.get? b = some o → ((hp.push (PySem.W.kdv_tup [u])).push (PySem.HandSPX.excO C hp.objs.size)).get? b = some o := fun b o e => Heap.get?_push_of_some _ (Heap.get?_push_of_some _ e)
  have hget : ((hp.push (PySem.W.kdv_tup [u])).push (PySem.HandSPX.excO C hp.objs.size)).get? (hp.objs.size + 1) = some (PySem.HandSPX.excO C hp.objs.size) := by heap_get
  obtain ⟨nm, N', qn, bs, bm, hdct, sn, sub, ab, col, dd, k0, k1, k2, k3, k5, hC, hT⟩ := PySem.W.excInit_of I1.kIn T.init
  obtain ⟨mb, hb1, hb2⟩ := I1.mod.blt
  have kb : ∀ b o, X.base.get? b = some o → ((hp.push (PySem.W.kdv_tup [u])).push (PySem.HandSPX.excO C hp.objs.size)).get? b = some o := fun b o z => kk b o (I1.bk b o z)
  have KX : X.K.In ((hp.push (PySem.W.kdv_tup [u])).push (PySem.HandSPX.excO C hp.objs.size)) := I1.ok.mod.kin.keeps kb
  have hKe : X.K.lookup (hp.objs.size + 1) = none := by
    cases z : X.K.lookup (hp.objs.size + 1) with
    | none => rfl
    | some o => exact absurd (Heap.lt_size (I1.kIn _ _ z)) (by simp)
  refine wpAny_call (PySem.HandSPX.call_own b.F hT hC (PySem.W.looks_findIn I1.kIn hfI) (fun self => PySem.W.bind_fn I1.kIn self tI) (by show 1 ≤ sizeLine; rw [sizeLine_eq]; omega) ?_)
  refine xi_run b T KX (I1.mod.glob.keeps kb) (hb1.keeps kb) (hb2 _ (by decide) |>.trans rfl) (I1.mod.nolimit.keeps kb) hsup ((hr.make C [u] []).depth) (e := hp.objs.size + 1) hget hKe hfI fun h' tk' dx t1 k sz ne he' hn => ?_
  refine ⟨rfl, ?_⟩
  have na : ∀ {b : Addr} {o : Obj}, hp.get? b = some o → b ≠ hp.objs.size + 1 := fun {b o} z => Nat.ne_of_lt (Nat.lt_of_lt_of_le (Heap.lt_size z) hsz)
  have szd : hp.objs.size ≤ dx := by
    have e2 : ((hp.push (PySem.W.kdv_tup [u])).push (PySem.HandSPX.excO C hp.objs.size)).objs.size = hp.objs.size + 1 + 1 := by rw [Heap.size_push, Heap.size_push]
    omega
  obtain ⟨G, g1', g2'⟩ := restrict h' fun b => decide (b ≠ hp.objs.size + 1)
  have gk : ∀ b, b ≠ hp.objs.size + 1 → G.get? b = h'.get? b := fun b hb => g1' b (decide_eq_true hb)
  have ge : G.get? (hp.objs.size + 1) = none := g2' _ (by simp)
  have J : Inv X pins σ (upd H1 dx (.xd [(fld, v)])) ⟨G, g, dr, tk', os⟩ :=
    I1.laid (t' := tk') (a := dx) (o := .xd [(fld, v)]) (h' := G) (fun b o z => by rw [gk b (na z)]; exact k b o (na z) (kk b o z)) szd
      ⟨_, hn.at fun o y => (gk dx ne).trans y, relO_put (fs := []) rv fun g => True.intro⟩
  refine ⟨hp.objs.size + 1, _, _, ⟨G, g, dr, tk', os⟩, _, .ref C, some dx, rfl, J, fun b o z => ?_, ge, he', ⟨rfl, rfl⟩, rfl, rfl, ?_, rfl, I1.bare, raises_own T.exC T.tyC, q1 dx (I1.hok.fresh szd)⟩
  · by_cases hba : b = hp.objs.size + 1
    · rw [hba, ge] at z
      cases z
    · exact (gk b hba).symm.trans z
  · rw [upd_ne (Ne.symm ne)]
    exact I1.hok.fresh hsz
end
end Mn
end

section
set_option Elab.async false
set_option linter.all false
set_option maxRecDepth 100000
set_option maxHeartbeats 2000000
/-! X3: by one Bool, that a class of exceptions is such a one. -/
namespace Mn
open PySem PySem.W

/-- the built-in bases: name, __new__, __init__, what stands behind in the mro -/
def bsN (k : Nat) : String × String × String × List Value := match k with
  | 0 => ("ValueError", "ValueError.__new__", "ValueError.__init__", [.type "ValueError", .type "Exception", .type "BaseException", .type "object"])
  | 1 => ("IndexError", "IndexError.__new__", "IndexError.__init__", [.type "IndexError", .type "LookupError", .type "Exception", .type "BaseException", .type "object"])
  | 2 => ("OverflowError", "OverflowError.__new__", "OverflowError.__init__", [.type "OverflowError", .type "ArithmeticError", .type "Exception", .type "BaseException", .type "object"])
  | 3 => ("ArithmeticError", "ArithmeticError.__new__", "ArithmeticError.__init__", [.type "ArithmeticError", .type "Exception", .type "BaseException", .type "object"])
  | _ => ("LookupError", "LookupError.__new__", "LookupError.__init__", [.type "LookupError", .type "Exception", .type "BaseException", .type "object"])
theorem bs_ok (k : Nat) : XiB (bsN k).1 (bsN k).2.1 (bsN k).2.2.1 (bsN k).2.2.2 := match k with
  | 0 => ⟨PySem.F.excBase_ValueError, PySem.F.store_ValueError, kxs_ValueError⟩
  | 1 => ⟨PySem.F.excBase_IndexError, PySem.F.store_IndexError, kxs_IndexError⟩
  | 2 => ⟨PySem.F.excBase_OverflowError, PySem.F.store_OverflowError, kxs_OverflowError⟩
  | 3 => ⟨PySem.F.excBase_ArithmeticError, PySem.F.store_ArithmeticError, kxs_ArithmeticError⟩
  | _ + 4 => ⟨PySem.F.excBase_LookupError, PySem.F.store_LookupError, kxs_LookupError⟩

def vNone : Value → Bool
  | .none => true
  | _ => false
def noCell (sc : Scope) : Bool := sc.names.all fun y => match y.2 with | .cell => false | _ => true
def cellB (K : Frag) (cc C : Addr) : Bool := match K.lookup cc with
  | some ⟨_, _, .cell (some (.ref D)), _⟩ => decide (D = C)
  | _ => false
def fileB (P : Program) (K : Frag) (cda : Addr) : Bool := match K.lookup cda with
  | some ⟨_, _, .fields vs, _⟩ => (match (vs[2]? : Option Value) with | some (.str file _) => (P.main.file : Str) == file | _ => false)
  | _ => false
def fnB (P : Program) (K : Frag) (C fI : Addr) (fld : Str) : Bool := match K.lookup fI with
  | some ⟨_, _, .func ⟨_, qual, ⟨[], [a0, a1], none, [], [], none, []⟩, .stmts [.Expr (.Call (.Attribute (.Call (.Name s0 _) [] [] _) i0 p2) [.Constant (.str _) _ _] [] p4) _, .Assign [.Attribute (.Name x _) f' _] (.Name y _) _], sc, gl, [(cn, cc)], dV, _, _, _, _, .ref cda, _, bn⟩, _⟩ =>
    decide (s0 = "super") && (decide (i0 = "__init__") && (decide (x = a0.arg) && (decide (y = a1.arg) && (decide (f' = fld) && (decide (cn = "__class__") && (decide (gl = mainGlobals) && (decide (bn = builtinsNs) && (vNone dV && ((p2.endLine == p4.line) &&
      (codeIn K (.ref cda) qual && (decide (a0.arg ≠ a1.arg) && (!(a0.arg == ("__debug__" : Str)) && (!(a1.arg == ("__debug__" : Str)) && ((match sc.kind with | .function => true | _ => false) && (!sc.isCoroutine && (!sc.isGenerator && (noCell sc &&
      (decide (sc.names.lookup a0.arg = some .local) && (decide (sc.names.lookup a1.arg = some .local) && (decide (sc.names.lookup ("super" : Str) = some .globalImplicit) && (decide (sc.names.lookup ("__class__" : Str) = some .free) && (cellB K cc C && (fileB P K cda && decide (typeIn K (.ref fI) = some (.type "function")))))))))))))))))))))))))
  | _ => false
def xiChk (P : Program) (K : Frag) (C : Addr) (fld : Str) (k : Nat) : Bool :=
  (match findIn K (.ref C) "__init__" with
    | some (some (.ref fI)) => fnB P K C fI fld
    | _ => false) && (excInitIn K C (bsN k).2.2.2 (bsN k).2.1 && (excOver K C (bsN k).2.2.2 && (hasDictIn K C && (decide (takerIn K C fld = some none) && (decide (findIn K (.ref C) "__setattr__" = some (some (.builtin "object.__setattr__"))) &&
      (decide (ks_superIn K C C "__init__" = some (some (.builtin (bsN k).2.2.1))) && (decide (mroIn K C (.ref C) = some true) && (decide (subIn K (.ref C) (.type "BaseException") = some true) && (decide (subIn K (.ref C) (.type (bsN k).1) = some true) &&
      (decide (typeIn K (.ref C) = some (.type "type")) && (keepIn K (.ref C) && (decide (nsIn K cStatics "thirdparty.any" = some none) && (!(P.main.scope.names.lookup ("super" : Str)).isSome && (L2.xfB K C && decide (findIn K (.ref C) fld = some none)))))))))))))))
theorem and_b {a b : Bool} (h : (a && b) = true) : a = true ∧ b = true := Bool.and_eq_true_iff.mp h
theorem xiChk_ok {P : Program} {K : Frag} {C : Addr} {fld : Str} {k : Nat} (h : xiChk P K C fld k = true) : XiOk P K C fld (bsN k).2.1 (bsN k).2.2.1 (bsN k).2.2.2 (bsN k).1 ∧ L2.XfC K C ∧ findIn K (.ref C) fld = some none := by
  unfold xiChk at h
  obtain ⟨h0, h⟩ := and_b h
  obtain ⟨h1, h⟩ := and_b h
  obtain ⟨h2, h⟩ := and_b h
  obtain ⟨h3, h⟩ := and_b h
  obtain ⟨h4, h⟩ := and_b h
  obtain ⟨h5, h⟩ := and_b h
  obtain ⟨h6, h⟩ := and_b h
  obtain ⟨h7, h⟩ := and_b h
  obtain ⟨h8, h⟩ := and_b h
  obtain ⟨h9, h⟩ := and_b h
  obtain ⟨h10, h⟩ := and_b h
  obtain ⟨h11, h⟩ := and_b h
  obtain ⟨h12, h⟩ := and_b h
  obtain ⟨h13, h⟩ := and_b h
  obtain ⟨h14, h15⟩ := and_b h
  refine ⟨⟨?_, h1, h2, h3, of_decide_eq_true h4, of_decide_eq_true h5, of_decide_eq_true h6, of_decide_eq_true h7, of_decide_eq_true h8, of_decide_eq_true h9, of_decide_eq_true h10, h11, of_decide_eq_true h12, by simpa using h13⟩, L2.xfB_ok h14, of_decide_eq_true h15⟩
  split at h0
  · rename_i fI hfI
    unfold fnB at h0
    split at h0
    · rename_i oc od nm qual a0 a1 s0 q0 q1 i0 p2 m j q3 p4 q5 x q6 f' q7 y q8 q9 sc gl cn cc dV kV doc pm an cda ct bn osl lk
      obtain ⟨g0, h⟩ := and_b h0
      obtain ⟨g1, h⟩ := and_b h
      obtain ⟨g2, h⟩ := and_b h
      obtain ⟨g3, h⟩ := and_b h
      obtain ⟨g4, h⟩ := and_b h
      obtain ⟨g5, h⟩ := and_b h
      obtain ⟨g6, h⟩ := and_b h
      obtain ⟨g7, h⟩ := and_b h
      obtain ⟨g8, h⟩ := and_b h
      obtain ⟨g9, h⟩ := and_b h
      obtain ⟨g10, h⟩ := and_b h
      obtain ⟨g11, h⟩ := and_b h
      obtain ⟨g12, h⟩ := and_b h
      obtain ⟨g13, h⟩ := and_b h
      obtain ⟨g14, h⟩ := and_b h
      obtain ⟨g15, h⟩ := and_b h
      obtain ⟨g16, h⟩ := and_b h
      obtain ⟨g17, h⟩ := and_b h
      obtain ⟨g18, h⟩ := and_b h
      obtain ⟨g19, h⟩ := and_b h
      obtain ⟨g20, h⟩ := and_b h
      obtain ⟨g21, h⟩ := and_b h
      obtain ⟨g22, h⟩ := and_b h
      obtain ⟨g23, g24⟩ := and_b h
      have e0 := of_decide_eq_true g0
      have e1 := of_decide_eq_true g1
      have e2 := of_decide_eq_true g2
      have e3 := of_decide_eq_true g3
      have e4 := of_decide_eq_true g4
      have e5 := of_decide_eq_true g5
      have e6 := of_decide_eq_true g6
      have e7 := of_decide_eq_true g7
      subst e0 e1 e2 e3 e4 e5 e6 e7
      have e8 : dV = .none := by cases dV <;> first | rfl | cases g8
      refine ⟨fI, cda, cc, oc, od, osl, nm, qual, a0, a1, sc, q0, q1, p2, q3, p4, q5, q6, q7, q8, q9, m, j, dV, kV, doc, pm, ct, an, lk, g9, g10, e8, of_decide_eq_true g11, by simpa using g12, by simpa using g13, ?_, by simpa using g15, by simpa using g16, ?_, of_decide_eq_true g18, of_decide_eq_true g19, of_decide_eq_true g20, of_decide_eq_true g21, ?_, ?_, hfI, of_decide_eq_true g24⟩
      · split at g14
        · assumption
        · cases g14
      · intro z hz e
        have q := List.all_eq_true.mp g17 z hz
        rw [e] at q
        cases q
      · unfold cellB at g22
        split at g22
        · rename_i ccl cld D csl hl
          rw [of_decide_eq_true g22] at hl
          exact ⟨_, _, _, hl⟩
        · cases g22
      · unfold fileB at g23
        split at g23
        · rename_i ccl cdd vs ccs hl
          split at g23
          · rename_i file tf hv
            exact ⟨_, _, vs, _, file, tf, hl, hv, g23⟩
          · cases g23
        · cases g23
    · cases h0
  · cases h0
end Mn
end

section
set_option Elab.async false
set_option linter.all false
/-! M0: a small interpreter over structural values. No model in sight. -/
namespace Mn
open PySem

inductive Val where
  | non | bl (b : Bool) | int (i : Int) | str (s : Str)
  | tup (l : List Val) | lst (l : List Val)
  | own (k : Nat)
  | obj (c : Nat) (fs : List Val)
  | fn (f : Nat)
  | exn (c : Nat) (p : List Val)
  | edic
  /-- the law's script: a list that is read alone -/
  | scr (l : List Val)
  deriving Inhabited

/-- a cell: a list (live or not any more), or an instance in the making -/
inductive Cell where
  | lst (live : Bool) (l : List Val)
  | ins (c : Nat) (fs : List (Option Val))
  deriving Inhabited

abbrev Store := List Cell
abbrev Env := List (Option Val)

inductive Res (α : Type) where
  | ok (a : α) (O : Store)
  | exc (c : Nat) (p : List Val) (O : Store)
  | bad
  deriving Inhabited

def Res.bind {α β : Type} (r : Res α) (f : α → Store → Res β) : Res β :=
  match r with
  | .ok a O => f a O
  | .exc c p O => .exc c p O
  | .bad => .bad
/-- what a partial step tells -/
def ofO {α : Type} (o : Option α) (O : Store) : Res α := match o with | some a => .ok a O | none => .bad
def ofO2 {α : Type} (o : Option (α × Store)) : Res α := match o with | some (a, O) => .ok a O | none => .bad

/-! ### no `own` at or above n -/
mutual
def Val.lt (n : Nat) : Val → Bool
  | .own k => Nat.blt k n
  | .tup l => ltAll n l
  | .lst l => ltAll n l
  | .scr l => ltAll n l
  | .obj _ l => ltAll n l
  | .exn _ l => ltAll n l
  | .non => true
  | .bl _ => true
  | .int _ => true
  | .str _ => true
  | .fn _ => true
  | .edic => true
def ltAll (n : Nat) : List Val → Bool
  | [] => true
  | v :: r => v.lt n && ltAll n r
end
def ltOpt (n : Nat) : List (Option Val) → Bool
  | [] => true
  | some v :: r => v.lt n && ltOpt n r
  | none :: r => ltOpt n r
def Cell.lt (n : Nat) : Cell → Bool
  | .lst _ l => ltAll n l
  | .ins _ fs => ltOpt n fs
def cellsLt (n : Nat) : Store → Bool
  | [] => true
  | c :: r => c.lt n && cellsLt n r

/-! ### reading -/
def listOf (O : Store) : Val → Option (List Val)
  | .lst l => some l
  | .own k => match O[k]? with
    | some (.lst _ l) => some l
    | _ => none
  | _ => none
def seqOf (O : Store) : Val → Option (List Val)
  | .tup l => some l
  | v => listOf O v
/-- a list that may be changed -/
def liveOf (O : Store) : Val → Option (Nat × List Val)
  | .own k => match O[k]? with
    | some (.lst true l) => some (k, l)
    | _ => none
  | _ => none
mutual
/-- a value as data -/
def Val.data (O : Store) : Val → Option PyData
  | .non => some .none
  | .bl b => some (.bool b)
  | .int i => some (.int i)
  | .str s => some (.str s)
  | .tup l => match dataAll O l with | some r => some (.tuple r) | none => none
  | .lst l => match dataAll O l with | some r => some (.list r) | none => none
  | _ => none
def dataAll (O : Store) : List Val → Option (List PyData)
  | [] => some []
  | v :: r => match v.data O with
    | some a => match dataAll O r with
      | some b => some (a :: b)
      | none => none
    | none => none
end
/-- .. at the top a list that is still live may stand -/
def dataOf (O : Store) (v : Val) : Option PyData := match v with
  | .own _ => match listOf O v with
    | some l => (Val.lst l).data O
    | none => none
  | _ => v.data O

/-! ### a live list is closed: from now on it never changes -/
mutual
def frz : Nat → Val → Store → Option (Val × Store)
  | 0, _, _ => none
  | n + 1, .own k, O => match O[k]? with
    | some (.lst _ l) => match frzL n l O with
      | some (l', O1) => some (.lst l', O1.set k (.lst false l'))
      | none => none
    | _ => none
  | _ + 1, v, O => some (v, O)
def frzL : Nat → List Val → Store → Option (List Val × Store)
  | 0, _, _ => none
  | _ + 1, [], O => some ([], O)
  | n + 1, v :: r, O => match frz n v O with
    | some (v', O1) => match frzL n r O1 with
      | some (r', O2) => some (v' :: r', O2)
      | none => none
    | none => none
end
def isOwn : Val → Bool
  | .own _ => true
  | _ => false
def anyOwn : List Val → Bool
  | [] => false
  | v :: r => isOwn v || anyOwn r
def FUEL : Nat := 1000000000
/-- close a value (a list of no live lists by one step) -/
def close (v : Val) (O : Store) : Option (Val × Store) := match v with
  | .own k => match O[k]? with
    | some (.lst _ l) => match anyOwn l with
      | false => some (.lst l, O.set k (.lst false l))
      | true => frz FUEL v O
    | _ => none
  | v => some (v, O)
/-- what goes into a structure: closed, unless the def keeps lists live -/
def emb (fz : Bool) (v : Val) (O : Store) : Option (Val × Store) := match fz with
  | true => close v O
  | false => some (v, O)

/-! ### operators -/
inductive Bop where | add | sub | mul | fdiv | mod | pow
inductive Cop where | eq | ne | lt | le | gt | ge | isN | notN | mem | nmem
def mulOk (i j : Int) : Bool := Nat.blt (i.natAbs.log2 + j.natAbs.log2) 100000000
def powOk (i j : Int) : Bool := decide (0 ≤ j) && decide (j ≤ 1000000) && Nat.blt i.natAbs 18446744073709551616
def rngOk (i : Int) : Bool := decide (-4611686018427387904 ≤ i) && decide (i < 4611686018427387904)
def smallLen (n : Nat) : Bool := Nat.ble n 16777216
/-- a new list: live where it is kept, else closed -/
def newL (kp : Bool) (l : List Val) (O : Store) : Option (Val × Store) := match smallLen l.length with
  | true => match kp with
    | true => some (.own O.length, O ++ [.lst true l])
    | false => match anyOwn l with
      | false => some (.lst l, O)
      | true => none
  | false => none
def newT (l : List Val) (O : Store) : Option (Val × Store) := match smallLen l.length with
  | true => some (.tup l, O)
  | false => none
def repL (n : Int) (l : List Val) : List Val := (List.replicate n.toNat l).flatten
def binV (kp : Bool) (op : Bop) (a b : Val) (O : Store) : Option (Val × Store) := match op, a, b with
  | .add, .int i, .int j => some (.int (i + j), O)
  | .sub, .int i, .int j => some (.int (i - j), O)
  | .mul, .int i, .int j => match mulOk i j with | true => some (.int (i * j), O) | false => none
  | .fdiv, .int i, .int j => match decide (j = 0) || Builtin.divisionGoesByPylong i j with | true => none | false => some (.int (i.fdiv j), O)
  | .mod, .int i, .int j => match decide (j = 0) with | true => none | false => some (.int (i.fmod j), O)
  | .pow, .int i, .int j => match powOk i j with | true => some (.int (i ^ j.toNat), O) | false => none
  | .add, .str x, .str y => match smallLen (x.length + y.length) with | true => some (.str (x ++ y), O) | false => none
  | .add, .tup x, .tup y => newT (x ++ y) O
  | .mul, .tup x, .int n => match decide (n = 1) with
    | true => some (.tup x, O)
    | false => match Nat.ble x.length 1000 && Nat.blt 0 x.length && decide (2 ≤ n) && decide (n ≤ 1000) with | true => newT (repL n x) O | false => none
  | .add, a, b => match listOf O a, listOf O b with
    | some x, some y => newL kp (x ++ y) O
    | _, _ => none
  | .mul, a, .int n => match listOf O a with
    | some x => match rngOk n && smallLen (x.length * n.toNat) with | true => newL kp (repL n x) O | false => none
    | none => none
  | _, _, _ => none
def shapedB (d : PyData) : Bool := SeqAt.shaped d
/-- ==, over data -/
def eqV (O : Store) (a b : Val) : Option Bool := match dataOf O a, dataOf O b with
  | some x, some y => match shapedB x && shapedB y with
    | true => some (PyData.eqv x y)
    | false => none
  | _, _ => none
def cmpV (op : Cop) (a b : Val) (O : Store) : Option Bool := match op with
  | .eq => eqV O a b
  | .ne => match eqV O a b with | some r => some (!r) | none => none
  | .lt => match a, b with | .int i, .int j => some (decide (i < j)) | _, _ => none
  | .le => match a, b with | .int i, .int j => some (decide (i ≤ j)) | _, _ => none
  | .gt => match a, b with | .int i, .int j => some (decide (j < i)) | _, _ => none
  | .ge => match a, b with | .int i, .int j => some (decide (j ≤ i)) | _, _ => none
  | .isN => match a, b with
    | .non, .non => some true
    | .own _, .non => some false
    | _, .non => some false
    | _, _ => none
  | .notN => match a, b with
    | .non, .non => some false
    | _, .non => some true
    | _, _ => none
  | .mem => memV O a b
  | .nmem => match memV O a b with | some r => some (!r) | none => none
where
  memV (O : Store) (a b : Val) : Option Bool := match seqOf O b with
    | some l => match dataOf O a, dataAll O l with
      | some x, some ys => match shapedB x && shapedB (.list ys) with
        | true => some (ys.any fun z => PyData.eqv z x)
        | false => none
      | _, _ => none
    | none => none

def idxV (a i : Val) (O : Store) : Option Val := match i with
  | .int n => match a with
    | .str s => match smallLen s.length with
      | true => (match L2.atI s.cps.toList n with | some c => some (.str ⟨#[c]⟩) | none => none)
      | false => none
    | .scr l => L2.atI l n
    | a => match seqOf O a with
      | some l => L2.atI l n
      | none => none
  | _ => none
/-- .. of a list alone -/
def idxL (a i : Val) (O : Store) : Option Val := match listOf O a, i with
  | some l, .int n => L2.atI l n
  | _, _ => none
def bound : Val → Option (Option Int)
  | .non => some none
  | .int i => some (some i)
  | _ => none
def cutG {α : Type} (l : List α) (lo hi : Option Int) : List α := (l.drop (HT.sIx l.length 0 lo)).take (HT.sIx l.length l.length hi - HT.sIx l.length 0 lo)
def sliceV (kp : Bool) (a lo hi : Val) (O : Store) : Option (Val × Store) := match bound lo, bound hi with
  | some p, some q => match a with
    | .tup l => some (.tup (cutG l p q), O)
    | .str s => match smallLen s.length with
      | true => some (.str ⟨(cutG s.cps.toList p q).toArray⟩, O)
      | false => none
    | a => match listOf O a with
      | some l => newL kp (cutG l p q) O
      | none => none
  | _, _ => none
def revV (kp : Bool) (a : Val) (O : Store) : Option (Val × Store) := match a with
  | .tup _ => none
  | a => match listOf O a with
    | some l => newL kp l.reverse O
    | none => none
/-- o[i] = v on a live list -/
def setV (fz : Bool) (o i v : Val) (O : Store) : Option Store := match emb fz v O with
  | some (v', O1) => match liveOf O1 o with
    | some (k, l) => match i with
      | .int n => match L2.ixN l.length n with
        | some j => some (O1.set k (.lst true (l.set j v')))
        | none => none
      | _ => none
    | none => none
  | none => none

/-! ### repr, and how many different ones there are -/
def reprOk (d : PyData) : Bool := d.showable && !d.hasDict && Nat.ble d.depth 20 && Nat.ble d.shown.length 16777216
def reprV (v : Val) (O : Store) : Option PySem.Str := match v with
  | .edic => some (PyData.dict []).shown
  | v => match dataOf O v with
    | some d => match reprOk d with
      | true => some d.shown
      | false => none
    | none => none
/-- len(set(v)), v a tuple of two pairs of ints -/
def lsetV (v : Val) : Option Int := match v with
  | .tup [.tup [.int a, .int b], .tup [.int c, .int d]] => match shortI a && (shortI b && (shortI c && shortI d)) with
    | true => some (if a = c ∧ b = d then 1 else 2)
    | false => none
  | _ => none
where shortI (i : Int) : Bool := decide (-1000000 < i) && decide (i < 1000000)

/-! ### what a handler answers -/
inductive Ha where | c (v : Val) | f | rf
inductive Hx where | one (a : Ha) | pair (a b : Ha) | cat (x : PySem.Str) (a : Ha)
def haV (p : List Val) (O : Store) : Ha → Option Val
  | .c v => some v
  | .f => match p with | [v] => some v | _ => none
  | .rf => match p with
    | [v] => match reprV v O with | some s => some (.str s) | none => none
    | _ => none
def hxV (p : List Val) (O : Store) : Hx → Option Val
  | .one a => haV p O a
  | .pair a b => match haV p O a, haV p O b with | some x, some y => some (.tup [x, y]) | _, _ => none
  | .cat x a => match haV p O a with
    | some (.str y) => match smallLen (x.length + y.length) with | true => some (.str (x ++ y)) | false => none
    | _ => none

/-! ### what a for walks -/
inductive Ik where | seq | rng | enm | zip
inductive It where
  | seq (v : Val) | rng (lo c : Int) (n : Nat) | enm (v : Val) | zip (a b : Val) | str (s : Str)
def mkIt (k : Ik) (vs : List Val) (O : Store) : Option It := match k, vs with
  | .seq, [.str s] => some (.str s)
  | .seq, [v] => match seqOf O v with | some _ => some (.seq v) | none => none
  | .rng, [.int n] => match rngOk n with | true => some (.rng 0 1 n.toNat) | false => none
  | .rng, [.int a, .int n] => match rngOk a && rngOk n with | true => some (.rng a 1 (n - a).toNat) | false => none
  | .rng, [.int a, .int b, .int c] => match !decide (c = 0) && Nat.blt c.natAbs 1073741824 && Builtin.Range.small a b c with
    | true => some (.rng a c (Builtin.Range.rangeSize a b c).toNat)
    | false => none
  | .enm, [v] => match seqOf O v with | some _ => some (.enm v) | none => none
  | .zip, [a, b] => match seqOf O a, seqOf O b with | some _, some _ => some (.zip a b) | _, _ => none
  | _, _ => none
/-- the item at a turn: none where it cannot be told, some none at the end -/
def itGet (it : It) (i : Nat) (O : Store) : Option (Option Val) := match it with
  | .seq v => match seqOf O v with
    | some l => some l[i]?
    | none => none
  | .rng lo c n => match Nat.blt i n with
    | true => some (some (.int (lo + i * c)))
    | false => some none
  | .enm v => match seqOf O v with
    | some l => match l[i]? with
      | some x => some (some (.tup [.int i, x]))
      | none => match Nat.beq i l.length with
        | true => some none
        | false => none
    | none => none
  | .zip a b => match seqOf O a, seqOf O b with
    | some l, some m => match l[i]?, m[i]? with
      | some x, some y => some (some (.tup [x, y]))
      | _, _ => match Nat.ble i l.length && Nat.ble i m.length with
        | true => some none
        | false => none
    | _, _ => none
  | .str s => match s.cps.toList[i]? with
    | some c => some (some (.str ⟨#[c]⟩))
    | none => some none

/-! ### built-ins -/
inductive Ty where | int | bool | str | tuple | list | dict | cls (c : Nat)
inductive Blt where
  | len | abs | min | max | toInt | tuple | list | all | any | sum | gcd | lcm | isqrt
def gcdI (a b : Int) : Int := ((Nat.gcd a.natAbs b.natAbs : Nat) : Int)
def lcmI (a b : Int) : Int := ((Nat.lcm a.natAbs b.natAbs : Nat) : Int)
/-- the truth of a value -/
def truth : Val → Option Bool
  | .bl b => some b
  | .int i => some (!decide (i = 0))
  | _ => none
def truthL : List Val → Option (List Bool)
  | [] => some []
  | v :: r => match truth v, truthL r with
    | some b, some l => some (b :: l)
    | _, _ => none
def intsOf : List Val → Option (List Int)
  | [] => some []
  | .int i :: r => match intsOf r with | some l => some (i :: l) | none => none
  | _ => none
def shortI (i : Int) : Bool := Nat.blt i.natAbs.log2 13000
def isTy (t : Ty) : Val → Option Bool
  | .non => some false
  | .bl _ => some (match t with | .int => true | .bool => true | _ => false)
  | .int _ => some (match t with | .int => true | _ => false)
  | .str _ => some (match t with | .str => true | _ => false)
  | .tup _ => some (match t with | .tuple => true | _ => false)
  | .lst _ => some (match t with | .list => true | _ => false)
  | .own _ => none
  | .obj c _ => some (match t with | .cls c' => Nat.beq c c' | _ => false)
  | .fn _ => none
  | .exn _ _ => none
  | .edic => some (match t with | .dict => true | _ => false)
  | .scr _ => none
def bltV (b : Blt) (kp : Bool) (vs : List Val) (O : Store) : Option (Val × Store) := match b, vs with
  | .len, [.str s] => match smallLen s.length with | true => some (.int s.length, O) | false => none
  | .len, [.scr l] => some (.int l.length, O)
  | .len, [v] => match seqOf O v with | some l => some (.int l.length, O) | none => none
  | .abs, [.int i] => some (.int i.natAbs, O)
  | .min, [.int i, .int j] => some (.int (if j < i then j else i), O)
  | .max, [.int i, .int j] => some (.int (if i < j then j else i), O)
  | .max, [v] => match seqOf O v with
    | some l => match intsOf l with
      | some (x :: r) => some (.int (r.foldl (fun a b => if a < b then b else a) x), O)
      | _ => none
    | none => none
  | .toInt, [.int i] => some (.int i, O)
  | .toInt, [.bl b] => some (.int (match b with | true => 1 | false => 0), O)
  | .tuple, [v] => match seqOf O v with | some l => (match anyOwn l with | false => newT l O | true => none) | none => none
  | .list, [v] => match seqOf O v with | some l => newL kp l O | none => none
  | .all, [v] => match seqOf O v with
    | some l => match truthL l with | some r => some (.bl (r.all id), O) | none => none
    | none => none
  | .any, [v] => match seqOf O v with
    | some l => match truthL l with | some r => some (.bl (r.any id), O) | none => none
    | none => none
  | .sum, [v] => match listOf O v with
    | some l => match intsOf l with | some r => some (.int r.sum, O) | none => none
    | none => none
  | .gcd, [.int i, .int j] => some (.int (gcdI i j), O)
  | .lcm, [.int i, .int j] => match shortI i && shortI j with | true => some (.int (lcmI i j), O) | false => none
  | .isqrt, [.int i] => match decide (0 ≤ i) && shortI i with | true => some (.int (Float64.isqrt i.toNat : Nat), O) | false => none
  | _, _ => none

/-! ### methods of lists -/
inductive Mth where | append | pop | extend
def mthV (m : Mth) (fz : Bool) (o : Val) (vs : List Val) (O : Store) : Option (Val × Store) := match m, vs with
  | .append, [v] => match emb fz v O with
    | some (v', O1) => match liveOf O1 o with
      | some (k, l) => match smallLen (l.length + 1) with | true => some (.non, O1.set k (.lst true (l ++ [v']))) | false => none
      | none => none
    | none => none
  | .pop, [] => match liveOf O o with
    | some (k, l) => match l[l.length - 1]? with
      | some v => some (v, O.set k (.lst true l.dropLast))
      | none => none
    | none => none
  | .pop, [.int i] => match liveOf O o with
    | some (k, l) => match L2.ixN l.length i with
      | some j => match l[j]? with
        | some v => some (v, O.set k (.lst true (l.eraseIdx j)))
        | none => none
      | none => none
    | none => none
  | .extend, [v] => match liveOf O o with
    | some (k, l) => match listOf O v with
      | some m => match smallLen (l.length + m.length) with | true => some (.non, O.set k (.lst true (l ++ m))) | false => none
      | none => none
    | none => none
  | _, _ => none

/-! ### the syntax -/
mutual
inductive Ex where
  | bad
  | var (i : Nat) | glo (i : Nat) | fn (i : Nat)
  | non | bl (b : Bool) | int (i : Int) | str (s : Str) | edic
  | bin (kp : Bool) (op : Bop) (a b : Ex)
  | neg (a : Ex) | nt (a : Ex)
  | cmp (op : Cop) (a b : Ex) | chn (op op' : Cop) (a b c : Ex)
  | and (a b : Ex) | or (a b : Ex) | ite (c a b : Ex)
  | tup (es : Exs) | tupk (es : Exs) | lst (kp : Bool) (es : Exs)
  | isi (t : Ty) (a : Ex) | intq (a : Ex)
  | idx (a i : Ex) | sl (kp : Bool) (a lo hi : Ex) | rev (kp : Bool) (a : Ex)
  | call (f : Nat) (es : Exs) | callV (i : Nat) (es : Exs) | callT
  | blt (b : Blt) (kp : Bool) (es : Exs)
  | mth (m : Mth) (o : Ex) (es : Exs)
  | att (o : Ex) (a : Nat)
  | mk (c : Nat) (es : Exs)
  | cmp1 (kp : Bool) (elt : Ex) (t : Tg) (k : Ik) (es : Exs) (cs : Exs) (ow : List Nat)
  | nx0 (k d : Int) (e : Ex)
  | lam (g : Nat) (e : Ex)
  | rep (e : Ex) | lset (e : Ex)
inductive Exs where
  | nil | cons (e : Ex) (es : Exs) | star (e : Ex) (es : Exs)
inductive Tg where
  | nm (kp : Bool) (i : Nat) | tp (ts : Tgs) | sub (o i : Ex) | fld (o : Ex) (a : Nat)
inductive Tgs where
  | nil | cons (t : Tg) (ts : Tgs)
end
mutual
inductive St where
  | bad | asg (t : Tg) (e : Ex) | aug (i : Nat) (op : Bop) (e : Ex) | augS (o i : Ex) (op : Bop) (e : Ex)
  | ex (e : Ex) | ret (e : Ex)
  | ifs (c : Ex) (a b : Ss) | whl (c : Ex) (b : Ss) | fr (t : Tg) (k : Ik) (es : Exs) (b : Ss)
  | brk | cnt
  | rse (c : Nat) (es : Exs)
  /-- return e, the slot k empty -/
  | zr (k : Nat) (e : Ex)
  | tr (b : Ss) (hs : Hds)
inductive Ss where
  | nil | cons (s : St) (r : Ss)
inductive Hds where
  | nil | cons (c : Nat) (h : Hx) (r : Hds)
end

def Tgs.len : Tgs → Nat
  | .nil => 0
  | .cons _ r => r.len + 1

/-! ### programs -/
inductive At where | slot (i : Nat) | prop (f : Nat)
structure Cls where
  n : Nat
  init : Nat
  ats : List (Nat × At)
  mul : Option Nat := none
structure Fn where
  np : Nat
  ns : Nat
  body : Ss
  fz : Bool := true
  va : Bool := false
  keep : Bool := false
structure Pg where
  fns : List Fn
  cls : List Cls
  cons : List Val
  exm : Nat → Nat → Bool

structure Ctx where
  pg : Pg
  fz : Bool
  call : Nat → List Val → Store → Res Val
  callL : Nat → (Store → Res Val) → Store → Res Val
  th : Store → Res Val

inductive Fl where
  | nx (ρ : Env) | rt (v : Val) | bk (ρ : Env) | ct (ρ : Env)
  deriving Inhabited

def wipe (ρ : Env) : List Nat → Env
  | [] => ρ
  | i :: r => (wipe ρ r).set i none

/-- turns over an iterator; acc the answer so far -/
def loopI {α : Type} (get : Nat → Store → Option (Option Val)) (turn : Val → α → Store → Res (α × Bool)) : Nat → Nat → α → Store → Res α
  | 0, _, _, _ => .bad
  | n + 1, i, a, O => match get i O with
    | none => .bad
    | some none => .ok a O
    | some (some v) => (turn v a O).bind fun p O1 => match p.2 with
      | true => loopI get turn n (i + 1) p.1 O1
      | false => .ok p.1 O1
def loopW {α : Type} (turn : α → Store → Res (α × Bool)) : Nat → α → Store → Res α
  | 0, _, _ => .bad
  | n + 1, a, O => (turn a O).bind fun p O1 => match p.2 with
    | true => loopW turn n p.1 O1
    | false => .ok p.1 O1
@[irreducible] def TURNS : Nat := 18446744073709551616

def attOf (P : Pg) (O : Store) (o : Val) (a : Nat) : Option (Val ⊕ Nat) := match o with
  | .obj c fs => match P.cls[c]? with
    | some k => match k.ats.lookup a with
      | some (.slot i) => match fs[i]? with | some v => some (.inl v) | none => none
      | some (.prop f) => some (.inr f)
      | none => none
    | none => none
  | .own j => match O[j]? with
    | some (.ins c fs) => match P.cls[c]? with
      | some k => match k.ats.lookup a with
        | some (.slot i) => match fs[i]? with | some (some v) => some (.inl v) | _ => none
        | _ => none
      | none => none
    | _ => none
  | _ => none
def isTyP (P : Pg) (t : Ty) (x : Val) : Option Bool := match x with
  | .obj c l => match P.cls[c]? with
    | some _ => isTy t (.obj c l)
    | none => none
  | x => isTy t x
def allSome : List (Option Val) → Option (List Val)
  | [] => some []
  | some v :: r => match allSome r with | some l => some (v :: l) | none => none
  | none :: _ => none
/-- behind C(..): the instance as it stands from now on -/
def made (k : Nat) (O : Store) : Option (Val × Store) := match O[k]? with
  | some (.ins c fs) => match allSome fs with
    | some l => match ltAll k l && cellsLt k (O.take k) with
      | true => some (.obj c l, O.take k)
      | false => none
    | none => none
  | _ => none
/-- no exception may leave -/
def noX {α : Type} (r : Res α) : Res α := match r with
  | .ok a O => .ok a O
  | _ => .bad

mutual
def ev (X : Ctx) : Ex → Env → Store → Res Val
  | .bad, _, _ => .bad
  | .var i, ρ, O => match ρ[i]? with
    | some (some v) => .ok v O
    | _ => .bad
  | .glo i, _, O => ofO X.pg.cons[i]? O
  | .fn i, _, O => .ok (.fn i) O
  | .non, _, O => .ok .non O
  | .bl b, _, O => .ok (.bl b) O
  | .int i, _, O => .ok (.int i) O
  | .str s, _, O => .ok (.str s) O
  | .edic, _, O => .ok .edic O
  | .bin kp op a b, ρ, O => (ev X a ρ O).bind fun x O1 => (ev X b ρ O1).bind fun y O2 => match op with
    | .mul => match x with
      | .obj c _ => match X.pg.cls[c]? with
        | some k => match k.mul with
          | some f => match y with
            | .int _ => noX (X.call f [x, y] O2)
            | _ => .bad
          | none => .bad
        | none => .bad
      | _ => ofO2 (binV kp .mul x y O2)
    | op => ofO2 (binV kp op x y O2)
  | .neg a, ρ, O => (ev X a ρ O).bind fun x O1 => match x with | .int i => .ok (.int (-i)) O1 | _ => .bad
  | .nt a, ρ, O => (ev X a ρ O).bind fun x O1 => match x with | .bl b => .ok (.bl (!b)) O1 | _ => .bad
  | .cmp op a b, ρ, O => (ev X a ρ O).bind fun x O1 => (ev X b ρ O1).bind fun y O2 => match cmpV op x y O2 with
    | some r => .ok (.bl r) O2
    | none => .bad
  | .chn op op' a b c, ρ, O => (ev X a ρ O).bind fun x O1 => (ev X b ρ O1).bind fun y O2 => match cmpV op x y O2 with
    | some true => (ev X c ρ O2).bind fun z O3 => match cmpV op' y z O3 with
      | some r => .ok (.bl r) O3
      | none => .bad
    | some false => .ok (.bl false) O2
    | none => .bad
  | .and a b, ρ, O => (ev X a ρ O).bind fun x O1 => match x with
    | .bl true => ev X b ρ O1
    | .bl false => .ok (.bl false) O1
    | _ => .bad
  | .or a b, ρ, O => (ev X a ρ O).bind fun x O1 => match x with
    | .bl true => .ok (.bl true) O1
    | .bl false => ev X b ρ O1
    | _ => .bad
  | .ite c a b, ρ, O => (ev X c ρ O).bind fun x O1 => match x with
    | .bl true => ev X a ρ O1
    | .bl false => ev X b ρ O1
    | _ => .bad
  | .tup es, ρ, O => (evs X es ρ O).bind fun vs O1 => ofO2 (newT vs O1)
  | .tupk es, ρ, O => (evs' X es ρ O).bind fun vs O1 => ofO2 (newT vs O1)
  | .lst kp es, ρ, O => (evs X es ρ O).bind fun vs O1 => ofO2 (newL kp vs O1)
  | .isi t a, ρ, O => (ev X a ρ O).bind fun x O1 => match isTyP X.pg t x with
    | some r => .ok (.bl r) O1
    | none => .bad
  | .intq a, ρ, O => (ev X a ρ O).bind fun x O1 => match x with | .int _ => .ok x O1 | _ => .bad
  | .idx a i, ρ, O => (ev X a ρ O).bind fun x O1 => (ev X i ρ O1).bind fun y O2 => ofO (idxV x y O2) O2
  | .sl kp a lo hi, ρ, O => (ev X a ρ O).bind fun x O1 => (ev X lo ρ O1).bind fun y O2 => (ev X hi ρ O2).bind fun z O3 => ofO2 (sliceV kp x y z O3)
  | .rev kp a, ρ, O => (ev X a ρ O).bind fun x O1 => ofO2 (revV kp x O1)
  | .call f es, ρ, O => (evs' X es ρ O).bind fun vs O1 => X.call f vs O1
  | .callV i es, ρ, O => match ρ[i]? with
    | some (some (.fn f)) => (evs' X es ρ O).bind fun vs O1 => X.call f vs O1
    | _ => .bad
  | .callT, _, O => X.th O
  | .blt b kp es, ρ, O => (evs' X es ρ O).bind fun vs O1 => ofO2 (bltV b kp vs O1)
  | .mth m o es, ρ, O => (ev X o ρ O).bind fun x O1 => match listOf O1 x with
    | some _ => (evs' X es ρ O1).bind fun vs O2 => ofO2 (mthV m X.fz x vs O2)
    | none => .bad
  | .att o a, ρ, O => (ev X o ρ O).bind fun x O1 => match attOf X.pg O1 x a with
    | some (.inl v) => .ok v O1
    | some (.inr f) => noX (X.call f [x] O1)
    | none => .bad
  | .mk c es, ρ, O => (evs' X es ρ O).bind fun vs O1 => match X.pg.cls[c]? with
    | some k => (X.call k.init (.own O1.length :: vs) (O1 ++ [.ins c (List.replicate k.n none)])).bind fun v O2 => match v with
      | .non => ofO2 (made O1.length O2)
      | _ => .bad
    | none => .bad
  | .cmp1 kp elt t k es cs ow, ρ, O => (evs' X es ρ O).bind fun vs O1 => match mkIt k vs O1 with
    | some it => (loopI (itGet it) (fun v acc O2 => noX ((asg X t v (wipe ρ ow) O2).bind fun ρ1 O3 => (conds X cs ρ1 O3).bind fun b O4 => match b with
        | true => (ev X elt ρ1 O4).bind fun y O5 => match emb X.fz y O5 with
          | some (y', O6) => match smallLen (acc.length + 1) with
            | true => .ok (y' :: acc, true) O6
            | false => .bad
          | none => .bad
        | false => .ok (acc, true) O4)) TURNS 0 [] O1).bind fun acc O2 => ofO2 (newL kp acc.reverse O2)
    | none => .bad
  | .nx0 k d e, ρ, O => (ev X e ρ O).bind fun x O1 => match seqOf O1 x with
    | some l => (match intsOf l with
      | some is => .ok (.int ((is.find? (fun n => n != k)).getD d)) O1
      | none => .bad)
    | none => .bad
  | .lam g e, ρ, O => noX (X.callL g (fun O1 => ev X e ρ O1) O)
  | .rep a, ρ, O => (ev X a ρ O).bind fun x O1 => match reprV x O1 with
    | some s => .ok (.str s) O1
    | none => .bad
  | .lset a, ρ, O => (ev X a ρ O).bind fun x O1 => match lsetV x with
    | some n => .ok (.int n) O1
    | none => .bad
/-- the items of a display: closed -/
def evs (X : Ctx) : Exs → Env → Store → Res (List Val)
  | .nil, _, O => .ok [] O
  | .cons e es, ρ, O => (ev X e ρ O).bind fun x O1 => match emb X.fz x O1 with
    | some (x', O2) => (evs X es ρ O2).bind fun xs O3 => .ok (x' :: xs) O3
    | none => .bad
  | .star e es, ρ, O => (ev X e ρ O).bind fun x O1 => match seqOf O1 x with
    | some l => (evs X es ρ O1).bind fun xs O2 => .ok (l ++ xs) O2
    | none => .bad
/-- arguments: as they are -/
def evs' (X : Ctx) : Exs → Env → Store → Res (List Val)
  | .nil, _, O => .ok [] O
  | .cons e es, ρ, O => (ev X e ρ O).bind fun x O1 => (evs' X es ρ O1).bind fun xs O2 => .ok (x :: xs) O2
  | .star _ _, _, _ => .bad
def conds (X : Ctx) : Exs → Env → Store → Res Bool
  | .nil, _, O => .ok true O
  | .cons e .nil, ρ, O => (ev X e ρ O).bind fun x O1 => match x with | .bl b => .ok b O1 | _ => .bad
  | _, _, _ => .bad
def asg (X : Ctx) : Tg → Val → Env → Store → Res Env
  | .nm kp i, v, ρ, O => match kp with
    | true => .ok (ρ.set i (some v)) O
    | false => match close v O with
      | some (v', O1) => .ok (ρ.set i (some v')) O1
      | none => .bad
  | .tp ts, v, ρ, O => match v with
    | .tup l => (match Nat.beq ts.len l.length with | true => asgs X ts l ρ O | false => .bad)
    | .lst l => (match Nat.beq ts.len l.length with | true => asgs X ts l ρ O | false => .bad)
    | _ => .bad
  | .sub o i, v, ρ, O => (ev X o ρ O).bind fun x O1 => (ev X i ρ O1).bind fun y O2 => match setV X.fz x y v O2 with
    | some O3 => .ok ρ O3
    | none => .bad
  | .fld o a, v, ρ, O => (ev X o ρ O).bind fun x O1 => match close v O1 with
    | some (v', O2) => (match x with
      | .own j => match O2[j]? with
        | some (.ins c fs) => match X.pg.cls[c]? with
          | some k => match k.ats.lookup a with
            | some (.slot i) => .ok ρ (O2.set j (.ins c (fs.set i (some v'))))
            | _ => .bad
          | none => .bad
        | _ => .bad
      | _ => .bad)
    | none => .bad
def asgs (X : Ctx) : Tgs → List Val → Env → Store → Res Env
  | .nil, [], ρ, O => .ok ρ O
  | .cons t ts, v :: r, ρ, O => (asg X t v ρ O).bind fun ρ1 O1 => asgs X ts r ρ1 O1
  | _, _, _, _ => .bad
end


def hnd (P : Pg) : Hds → Nat → List Val → Store → Res Fl
  | .nil, c, p, O => .exc c p O
  | .cons c' h r, c, p, O => match P.exm c c' with
    | true => (match hxV p O h with
      | some v => .ok (.rt v) O
      | none => .bad)
    | false => hnd P r c p O
mutual
def ex (X : Ctx) : St → Env → Store → Res Fl
  | .bad, _, _ => .bad
  | .asg t e, ρ, O => (ev X e ρ O).bind fun v O1 => (asg X t v ρ O1).bind fun ρ1 O2 => .ok (.nx ρ1) O2
  | .aug i op e, ρ, O => match ρ[i]? with
    | some (some (.int x)) => (ev X e ρ O).bind fun y O1 => (ofO2 (binV false op (.int x) y O1)).bind fun z O2 => .ok (.nx (ρ.set i (some z))) O2
    | some (some (.str x)) => (ev X e ρ O).bind fun y O1 => (ofO2 (binV false op (.str x) y O1)).bind fun z O2 => .ok (.nx (ρ.set i (some z))) O2
    | _ => .bad
  | .augS o i op e, ρ, O => (ev X o ρ O).bind fun x O1 => (ev X i ρ O1).bind fun y O2 => (ofO (idxL x y O2) O2).bind fun w O3 => match w with
    | .int n => (ev X e ρ O3).bind fun z O4 => (ofO2 (binV false op (.int n) z O4)).bind fun r O5 => match setV true x y r O5 with
      | some O6 => .ok (.nx ρ) O6
      | none => .bad
    | _ => .bad
  | .ex e, ρ, O => (ev X e ρ O).bind fun _ O1 => .ok (.nx ρ) O1
  | .ret e, ρ, O => (ev X e ρ O).bind fun v O1 => .ok (.rt v) O1
  | .ifs c a b, ρ, O => (ev X c ρ O).bind fun x O1 => match x with
    | .bl true => exs X a ρ O1
    | .bl false => exs X b ρ O1
    | _ => .bad
  | .whl c b, ρ, O => (loopW (fun f O1 => match f with
      | .nx ρ1 => (ev X c ρ1 O1).bind fun x O2 => match x with
        | .bl true => (exs X b ρ1 O2).bind fun g O3 => match g with
          | .nx ρ2 => .ok (.nx ρ2, true) O3
          | .ct ρ2 => .ok (.nx ρ2, true) O3
          | .bk ρ2 => .ok (.nx ρ2, false) O3
          | .rt v => .ok (.rt v, false) O3
        | .bl false => .ok (.nx ρ1, false) O2
        | _ => .bad
      | _ => .bad) TURNS (.nx ρ) O)
  | .fr t k es b, ρ, O => (evs' X es ρ O).bind fun vs O1 => match mkIt k vs O1 with
    | some it => loopI (itGet it) (fun v f O2 => match f with
        | .nx ρ1 => (asg X t v ρ1 O2).bind fun ρ2 O3 => (exs X b ρ2 O3).bind fun g O4 => match g with
          | .nx ρ3 => .ok (.nx ρ3, true) O4
          | .ct ρ3 => .ok (.nx ρ3, true) O4
          | .bk ρ3 => .ok (.nx ρ3, false) O4
          | .rt v => .ok (.rt v, false) O4
        | _ => .bad) TURNS 0 (.nx ρ) O1
    | none => .bad
  | .brk, ρ, O => .ok (.bk ρ) O
  | .cnt, ρ, O => .ok (.ct ρ) O
  | .rse c es, ρ, O => (evs' X es ρ O).bind fun vs O1 => .exc c vs O1
  | .zr k e, ρ, O => match Nat.blt k ρ.length with
    | true => (ev X e (ρ.set k none) O).bind fun v O1 => .ok (.rt v) O1
    | false => .bad
  | .tr b hs, ρ, O => match exs X b ρ O with
    | .ok f O1 => .ok f O1
    | .exc c p O1 => hnd X.pg hs c p O1
    | .bad => .bad
def exs (X : Ctx) : Ss → Env → Store → Res Fl
  | .nil, ρ, O => .ok (.nx ρ) O
  | .cons s r, ρ, O => (ex X s ρ O).bind fun f O1 => match f with
    | .nx ρ1 => exs X r ρ1 O1
    | f => .ok f O1
end

/-! ### calls, to a depth -/
/-- a def's way out: its answer is closed (unless it keeps it), what it made is forgotten -/
def leave (n : Nat) (keep : Bool) (v : Val) (O : Store) : Res Val := match keep with
  | true => .ok v O
  | false => match close v O with
    | some (v', O1) => match v'.lt n && cellsLt n (O1.take n) with
      | true => .ok v' (O1.take n)
      | false => .ok v' O1
    | none => .bad
def startEnv (F : Fn) (vs : List Val) : Option Env := match F.va with
  | false => match Nat.beq vs.length F.np with
    | true => some (vs.map some ++ List.replicate (F.ns - F.np) none)
    | false => none
  | true => match !anyOwn vs && smallLen vs.length with
    | true => some (some (.tup vs) :: List.replicate (F.ns - 1) none)
    | false => none
def runF (X : Ctx) (F : Fn) (ρ : Env) (O : Store) : Res Val := match exs X F.body ρ O with
  | .ok (.rt v) O1 => leave O.length F.keep v O1
  | .ok (.nx _) O1 => leave O.length F.keep .non O1
  | .ok _ _ => .bad
  | .exc c p O1 => match ltAll O.length p && cellsLt O.length (O1.take O.length) with
    | true => .exc c p (O1.take O.length)
    | false => .exc c p O1
  | .bad => .bad
mutual
def callAt (P : Pg) : Nat → Nat → List Val → Store → Res Val
  | 0, _, _, _ => .bad
  | d + 1, f, vs, O => match P.fns[f]? with
    | some F => match startEnv F vs with
      | some ρ => runF ⟨P, F.fz, callAt P d, callLAt P d, fun _ => .bad⟩ F ρ O
      | none => .bad
    | none => .bad
def callLAt (P : Pg) : Nat → Nat → (Store → Res Val) → Store → Res Val
  | 0, _, _, _ => .bad
  | d + 1, f, th, O => match P.fns[f]? with
    | some F => match Nat.beq F.np 1 && !F.va with
      | true => runF ⟨P, F.fz, callAt P d, callLAt P d, th⟩ F (List.replicate F.ns none) O
      | false => .bad
    | none => .bad
end
end Mn
end

section
set_option Elab.async false
set_option linter.all false
set_option maxRecDepth 100000
/-! M1: how a state of the interpreter lies in the hand layer's slots and abstract heap. -/
namespace Mn
open PySem PySem.Spec PyProof.Rows L2

/-- the law's addresses -/
structure Fx where
  K : PySem.W.Frag
  nf : Nat
  fa : Nat → Addr
  ca : Nat → Addr
  ea : Nat → Addr
  ne : Nat
  T : List (Addr × Option Str)
  xf : Nat → Str

/-- where the cells lie, and which addresses never change any more -/
structure Wd where
  ad : Nat → Addr
  dx : Nat → Addr
  Z : Addr → Prop

def SqZ (K : PySem.W.Frag) (w : Wd) (H : Hp) (a : Addr) (xs : List V) : Prop :=
  (w.Z a ∧ H a = some (.tup xs)) ∨
    ∃ (o : Obj) (its : Array Value) (n : Nat), K.lookup a = some o ∧ o.cls = .type "tuple" ∧ o.data = .seq its n ∧ its.size ≤ sizeLine ∧ Vals xs its.toList
/-- a list of the fragment -/
def KL (K : PySem.W.Frag) (a : Addr) (xs : List V) : Prop := ∃ (o : Obj) (its : Array Value) (n : Nat), K.lookup a = some o ∧ o.cls = .type "list" ∧ o.dict = none ∧ o.data = .seq its n ∧ its.size ≤ sizeLine ∧ Vals xs its.toList
theorem SqZ.sq {K : PySem.W.Frag} {w : Wd} {H : Hp} {a : Addr} {xs : List V} (h : SqZ K w H a xs) : SqT K H a xs := by
  rcases h with ⟨_, h⟩ | h
  · exact .inl (.inl h)
  · exact .inr h

mutual
/-- the value v, as x -/
def Rp (F : Fx) (w : Wd) (n : Nat) (H : Hp) : Val → V → Prop
  | .non, x => x = .non
  | .bl b, x => x = .bl b
  | .int i, x => x = .int i
  | .str s, x => x = .str s
  | .tup l, x => ∃ a xs, x = .ref a ∧ SqZ F.K w H a xs ∧ RpL F w n H l xs
  | .lst l, x => ∃ a xs, x = .ref a ∧ w.Z a ∧ H a = some (.lst xs) ∧ RpL F w n H l xs
  | .scr l, x => ∃ a xs, x = .ref a ∧ ((w.Z a ∧ Rd H a (.lst xs)) ∨ KL F.K a xs) ∧ RpL F w n H l xs
  | .own k, x => k < n ∧ x = .ref (w.ad k)
  | .obj c l, x => ∃ a dx vs xs, x = .ref a ∧ w.Z a ∧ w.Z dx ∧ SlX.Slt H a (F.ca c) dx vs ∧ RpL F w n H l xs ∧ ∀ (i : Nat) (y : V), xs[i]? = some y → vs[i]? = some (some y)
  | .fn i, x => i < F.nf ∧ x = .ref (F.fa i)
  | .exn _ _, _ => False
  | .edic, x => ∃ a, x = .ref a ∧ w.Z a ∧ H a = some (.dK [])
def RpL (F : Fx) (w : Wd) (n : Nat) (H : Hp) : List Val → List V → Prop
  | [], xs => xs = []
  | v :: r, xs => ∃ x t, xs = x :: t ∧ Rp F w n H v x ∧ RpL F w n H r t
end
def RpO (F : Fx) (w : Wd) (n : Nat) (H : Hp) (fs : List (Option Val)) (vs : List (Option V)) : Prop :=
  ∀ (i : Nat) (v : Val), fs[i]? = some (some v) → ∃ x, vs[i]? = some (some x) ∧ Rp F w n H v x

section
variable {F : Fx} {w w' : Wd} {n n' : Nat} {H H' : Hp}
theorem Rd.keep {a : Addr} {o : HO} (h : Rd H a o) (e : ∀ u, H a = some u → H' a = some u) : Rd H' a o := by
  rcases h with h | ⟨u, h⟩
  · exact .inl (e _ h)
  · exact .inr ⟨u, e _ h⟩
theorem Slt.keep {a C dx : Addr} {vs : List (Option V)} (h : SlX.Slt H a C dx vs) (e : ∀ u, H a = some u → H' a = some u) (e2 : ∀ u, H dx = some u → H' dx = some u) : SlX.Slt H' a C dx vs := by
  rcases h with ⟨h1, h2⟩ | ⟨h1, h2⟩
  · exact .inl ⟨e _ h1, h2⟩
  · exact .inr ⟨e _ h1, e2 _ h2⟩
mutual
theorem Rp.mono (hn : n ≤ n') (had : ∀ k, k < n → w'.ad k = w.ad k) (hz : ∀ a, w.Z a → w'.Z a) (hk : ∀ a u, w.Z a → H a = some u → H' a = some u) :
    ∀ (v : Val) (x : V), Rp F w n H v x → Rp F w' n' H' v x
  | .non, _, h => h
  | .bl _, _, h => h
  | .int _, _, h => h
  | .str _, _, h => h
  | .tup l, x, h => by
    obtain ⟨a, xs, e, q, r⟩ := h
    refine ⟨a, xs, e, ?_, RpL.mono hn had hz hk l xs r⟩
    rcases q with ⟨q1, q2⟩ | q
    · exact .inl ⟨hz a q1, hk a _ q1 q2⟩
    · exact .inr q
  | .lst l, x, h => by
    obtain ⟨a, xs, e, q1, q2, r⟩ := h
    exact ⟨a, xs, e, hz a q1, hk a _ q1 q2, RpL.mono hn had hz hk l xs r⟩
  | .scr l, x, h => by
    obtain ⟨a, xs, e, q, r⟩ := h
    refine ⟨a, xs, e, ?_, RpL.mono hn had hz hk l xs r⟩
    rcases q with ⟨q1, q2⟩ | q
    · exact .inl ⟨hz a q1, Rd.keep q2 fun u => hk a u q1⟩
    · exact .inr q
  | .own k, x, h => ⟨Nat.lt_of_lt_of_le h.1 hn, by rw [had k h.1]; exact h.2⟩
  | .obj c l, x, h => by
    obtain ⟨a, dx, vs, xs, e, q1, q2, q3, r, q4⟩ := h
    exact ⟨a, dx, vs, xs, e, hz a q1, hz dx q2, Slt.keep q3 (fun u => hk a u q1) fun u => hk dx u q2, RpL.mono hn had hz hk l xs r, q4⟩
  | .fn _, _, h => h
  | .exn _ _, _, h => h
  | .edic, x, h => by
    obtain ⟨a, e, q1, q2⟩ := h
    exact ⟨a, e, hz a q1, hk a _ q1 q2⟩
theorem RpL.mono (hn : n ≤ n') (had : ∀ k, k < n → w'.ad k = w.ad k) (hz : ∀ a, w.Z a → w'.Z a) (hk : ∀ a u, w.Z a → H a = some u → H' a = some u) :
    ∀ (l : List Val) (xs : List V), RpL F w n H l xs → RpL F w' n' H' l xs
  | [], _, h => h
  | v :: r, xs, h => by
    obtain ⟨x, t, e, q, s⟩ := h
    exact ⟨x, t, e, Rp.mono hn had hz hk v x q, RpL.mono hn had hz hk r t s⟩
end
theorem RpO.mono (hn : n ≤ n') (had : ∀ k, k < n → w'.ad k = w.ad k) (hz : ∀ a, w.Z a → w'.Z a) (hk : ∀ a u, w.Z a → H a = some u → H' a = some u) {fs : List (Option Val)} {vs : List (Option V)}
    (h : RpO F w n H fs vs) : RpO F w' n' H' fs vs := fun i v e => by
  obtain ⟨x, q1, q2⟩ := h i v e
  exact ⟨x, q1, Rp.mono hn had hz hk v x q2⟩

/-! ### lists of related values -/
theorem RpL.length : ∀ {l : List Val} {xs : List V}, RpL F w n H l xs → l.length = xs.length
  | [], xs, h => by rw [show xs = [] from h]; rfl
  | v :: r, xs, h => by
    obtain ⟨x, t, e, _, q⟩ := h
    rw [e, List.length_cons, List.length_cons, RpL.length q]
theorem RpL.get : ∀ {l : List Val} {xs : List V} {i : Nat} {v : Val}, RpL F w n H l xs → l[i]? = some v → ∃ x, xs[i]? = some x ∧ Rp F w n H v x
  | [], _, _, _, _, e => by simp at e
  | a :: r, xs, 0, v, h, e => by
    obtain ⟨x, t, q1, q2, _⟩ := h
    have e' : a = v := by simpa using e
    subst e'
    exact ⟨x, by rw [q1]; rfl, q2⟩
  | a :: r, xs, i + 1, v, h, e => by
    obtain ⟨x, t, q1, _, q3⟩ := h
    obtain ⟨y, e1, e2⟩ := RpL.get (i := i) q3 (by simpa using e)
    exact ⟨y, by rw [q1]; simpa using e1, e2⟩
theorem RpL.get' {l : List Val} {xs : List V} {i : Nat} {x : V} (h : RpL F w n H l xs) (e : xs[i]? = some x) : ∃ v, l[i]? = some v ∧ Rp F w n H v x := by
  obtain ⟨hi, _⟩ := List.getElem?_eq_some_iff.mp e
  have hl : i < l.length := by rw [h.length]; exact hi
  obtain ⟨y, q1, q2⟩ := h.get (List.getElem?_eq_getElem hl)
  rw [e] at q1
  have z : x = y := Option.some.inj q1
  exact ⟨_, List.getElem?_eq_getElem hl, by rw [z]; exact q2⟩
theorem RpL.append : ∀ {l m : List Val} {xs ys : List V}, RpL F w n H l xs → RpL F w n H m ys → RpL F w n H (l ++ m) (xs ++ ys)
  | [], m, xs, ys, h, h' => by rw [show xs = [] from h]; exact h'
  | v :: r, m, xs, ys, h, h' => by
    obtain ⟨x, t, e, q, s⟩ := h
    subst e
    exact ⟨x, t ++ ys, rfl, q, RpL.append s h'⟩
theorem RpL.take : ∀ {l : List Val} {xs : List V} (k : Nat), RpL F w n H l xs → RpL F w n H (l.take k) (xs.take k)
  | _, _, 0, _ => by simp [RpL]
  | [], xs, k + 1, h => by rw [show xs = [] from h]; rfl
  | v :: r, xs, k + 1, h => by
    obtain ⟨x, t, e, q, s⟩ := h
    subst e
    exact ⟨x, t.take k, rfl, q, RpL.take k s⟩
theorem RpL.drop : ∀ {l : List Val} {xs : List V} (k : Nat), RpL F w n H l xs → RpL F w n H (l.drop k) (xs.drop k)
  | _, _, 0, h => h
  | [], xs, k + 1, h => by rw [show xs = [] from h]; rfl
  | v :: r, xs, k + 1, h => by
    obtain ⟨x, t, e, q, s⟩ := h
    subst e
    exact RpL.drop k s
theorem RpL.one {v : Val} {x : V} (h : Rp F w n H v x) : RpL F w n H [v] [x] := ⟨x, [], rfl, h, rfl⟩
theorem RpL.two {v u : Val} {x y : V} (h : Rp F w n H v x) (h' : Rp F w n H u y) : RpL F w n H [v, u] [x, y] := ⟨x, [y], rfl, h, RpL.one h'⟩
theorem RpL.reverse {l : List Val} {xs : List V} (h : RpL F w n H l xs) : RpL F w n H l.reverse xs.reverse := by
  induction l generalizing xs with
  | nil => rw [show xs = [] from h]; rfl
  | cons v r ih =>
    obtain ⟨x, t, e, q, s⟩ := h
    subst e
    rw [List.reverse_cons, List.reverse_cons]
    exact RpL.append (ih s) (RpL.one q)
theorem RpL.set : ∀ {l : List Val} {xs : List V} (i : Nat) {v : Val} {x : V}, RpL F w n H l xs → Rp F w n H v x → RpL F w n H (l.set i v) (xs.set i x)
  | [], xs, _, _, _, h, _ => by rw [show xs = [] from h]; rfl
  | a :: r, xs, 0, v, x, h, q => by
    obtain ⟨y, t, e, _, s⟩ := h
    subst e
    exact ⟨x, t, rfl, q, s⟩
  | a :: r, xs, i + 1, v, x, h, q => by
    obtain ⟨y, t, e, q', s⟩ := h
    subst e
    exact ⟨y, t.set i x, rfl, q', RpL.set i s q⟩
theorem RpL.rep {l : List Val} {xs : List V} (h : RpL F w n H l xs) : ∀ k : Nat, RpL F w n H (List.replicate k l).flatten (List.replicate k xs).flatten
  | 0 => rfl
  | k + 1 => by
    rw [List.replicate_succ, List.replicate_succ, List.flatten_cons, List.flatten_cons]
    exact RpL.append h (RpL.rep h k)
theorem RpL.cons_inv {v : Val} {r : List Val} {xs : List V} (h : RpL F w n H (v :: r) xs) : ∃ x t, xs = x :: t ∧ Rp F w n H v x ∧ RpL F w n H r t := h

/-! ### no live list within: the store does not matter -/
mutual
theorem Rp.lt {m : Nat} : ∀ (v : Val) (x : V), Rp F w n H v x → v.lt m = true → Rp F w m H v x
  | .non, _, h, _ => h
  | .bl _, _, h, _ => h
  | .int _, _, h, _ => h
  | .str _, _, h, _ => h
  | .tup l, x, h, e => by
    obtain ⟨a, xs, e1, q, r⟩ := h
    exact ⟨a, xs, e1, q, RpL.lt l xs r (by simpa [Val.lt] using e)⟩
  | .lst l, x, h, e => by
    obtain ⟨a, xs, e1, q1, q2, r⟩ := h
    exact ⟨a, xs, e1, q1, q2, RpL.lt l xs r (by simpa [Val.lt] using e)⟩
  | .scr l, x, h, e => by
    obtain ⟨a, xs, e1, q, r⟩ := h
    exact ⟨a, xs, e1, q, RpL.lt l xs r (by simpa [Val.lt] using e)⟩
  | .own k, x, h, e => ⟨by
      have e' : Nat.blt k m = true := by simpa [Val.lt] using e
      simpa [Nat.blt_eq] using e', h.2⟩
  | .obj c l, x, h, e => by
    obtain ⟨a, dx, vs, xs, e1, q1, q2, q3, r, q4⟩ := h
    exact ⟨a, dx, vs, xs, e1, q1, q2, q3, RpL.lt l xs r (by simpa [Val.lt] using e), q4⟩
  | .fn _, _, h, _ => h
  | .exn _ _, _, h, _ => h
  | .edic, _, h, _ => h
theorem RpL.lt {m : Nat} : ∀ (l : List Val) (xs : List V), RpL F w n H l xs → ltAll m l = true → RpL F w m H l xs
  | [], _, h, _ => h
  | v :: r, xs, h, e => by
    obtain ⟨x, t, e1, q, s⟩ := h
    have e2 : v.lt m = true ∧ ltAll m r = true := by simpa [ltAll, Bool.and_eq_true] using e
    exact ⟨x, t, e1, Rp.lt v x q e2.1, RpL.lt r t s e2.2⟩
end
end

/-! ### the store -/
/-- an address that the code may still change through the cell c at k -/
def HotC (w : Wd) (k : Nat) (a : Addr) : Cell → Prop
  | .lst true _ => w.ad k = a
  | .lst false _ => False
  | .ins _ _ => w.ad k = a ∨ w.dx k = a
def Hot (w : Wd) (O : Store) (a : Addr) : Prop := ∃ k c, O[k]? = some c ∧ HotC w k a c
/-- not a table of code objects -/
def NT (o : HO) : Prop := ∀ ps, o ≠ .tbl ps
def CellOk (F : Fx) (w : Wd) (n : Nat) (H : Hp) (k : Nat) : Cell → Prop
  | .lst true l => ∃ xs, H (w.ad k) = some (.lst xs) ∧ RpL F w n H l xs
  | .lst false l => w.Z (w.ad k) ∧ ∃ xs, H (w.ad k) = some (.lst xs) ∧ RpL F w n H l xs
  | .ins c fs => w.dx k ≠ w.ad k ∧ (∃ o, H (w.dx k) = some o ∧ NT o) ∧ ∃ vs, SlX.Slt H (w.ad k) (F.ca c) (w.dx k) vs ∧ RpO F w n H fs vs
/-- the tables of code objects of the law's lambdas -/
def TabZ (F : Fx) (w : Wd) (H : Hp) : Prop := ∀ p ∈ F.T, ∃ ps : Array Value, H p.1 = some (.tbl ps) ∧ TriplesOk ps.toList ∧ ∀ q, p.2 = some q → ∀ (pos : Pos) (cv : Value), codeAmong pos ps.toList = some cv → ∃ c, cv = .ref c ∧ w.Z c ∧ H c = some (LamX.CodeO c q)
theorem TabZ.keep {F : Fx} {w w' : Wd} {H H' : Hp} (t : TabZ F w H) (hz : ∀ a, w.Z a → w'.Z a) (k : ∀ a o, H a = some o → (w.Z a ∨ ∃ ps, o = .tbl ps) → H' a = some o) : TabZ F w' H' := fun p hp => by
  obtain ⟨ps, h1, h2, h3⟩ := t p hp
  refine ⟨ps, k _ _ h1 (.inr ⟨ps, rfl⟩), h2, fun q hq pos cv e => ?_⟩
  obtain ⟨c, e1, e2, e3⟩ := h3 q hq pos cv e
  exact ⟨c, e1, hz c e2, k _ _ e3 (.inl e2)⟩
structure SOk (F : Fx) (w : Wd) (O : Store) (H : Hp) : Prop where
  zt : ∀ a, w.Z a → (∃ o, H a = some o ∧ NT o) ∧ ¬ Hot w O a
  tab : TabZ F w H
  cell : ∀ k c, O[k]? = some c → CellOk F w O.length H k c
  inj : ∀ j k c d a, O[j]? = some c → O[k]? = some d → HotC w j a c → HotC w k a d → j = k
structure Le (w : Wd) (O : Store) (H : Hp) (w' : Wd) (O' : Store) (H' : Hp) : Prop where
  len : O.length ≤ O'.length
  ad : ∀ k, k < O.length → w'.ad k = w.ad k ∧ w'.dx k = w.dx k
  z : ∀ a, w.Z a → w'.Z a
  keep : ∀ a o, H a = some o → ¬ Hot w O a → NT o → H' a = some o
  znew : ∀ a, w'.Z a → w.Z a ∨ H a = none ∨ Hot w O a
  hot : ∀ a, Hot w' O' a → Hot w O a ∨ H a = none
  there : ∀ a o, H a = some o → ∃ o', H' a = some o'

section
variable {F : Fx} {w w1 w2 : Wd} {O O1 O2 : Store} {H H1 H2 : Hp}
theorem Le.refl : Le w O H w O H := ⟨Nat.le_refl _, fun _ _ => ⟨rfl, rfl⟩, fun _ h => h, fun _ _ h _ _ => h, fun _ h => .inl h, fun _ h => .inl h, fun _ o h => ⟨o, h⟩⟩
theorem Le.trans (a : Le w O H w1 O1 H1) (b : Le w1 O1 H1 w2 O2 H2) : Le w O H w2 O2 H2 where
  len := Nat.le_trans a.len b.len
  ad := fun k hk => by
    obtain ⟨b1, b2⟩ := b.ad k (Nat.lt_of_lt_of_le hk a.len)
    obtain ⟨a1, a2⟩ := a.ad k hk
    exact ⟨b1.trans a1, b2.trans a2⟩
  z := fun x h => b.z x (a.z x h)
  keep := fun x o h hn nt => b.keep x o (a.keep x o h hn nt) (fun hh => by
    rcases a.hot x hh with q | q
    · exact hn q
    · rw [h] at q; cases q) nt
  znew := fun x h => by
    have no1 : H1 x = none → H x = none := fun q => by
      cases e : H x with
      | none => rfl
      | some o =>
        obtain ⟨o', e'⟩ := a.there x o e
        rw [q] at e'; cases e'
    rcases b.znew x h with q | q | q
    · exact a.znew x q
    · exact .inr (.inl (no1 q))
    · rcases a.hot x q with r | r
      · exact .inr (.inr r)
      · exact .inr (.inl r)
  hot := fun x h => by
    rcases b.hot x h with q | q
    · exact a.hot x q
    · refine .inr ?_
      cases e : H x with
      | none => rfl
      | some o =>
        obtain ⟨o', e'⟩ := a.there x o e
        rw [q] at e'; cases e'
  there := fun x o h => by
    obtain ⟨o', e⟩ := a.there x o h
    exact b.there x o' e
/-- what stands under Z stays -/
theorem SOk.zk (s : SOk F w O H) (l : Le w O H w1 O1 H1) : ∀ a u, w.Z a → H a = some u → H1 a = some u := fun a u hz e => l.keep a u e (s.zt a hz).2 (by
  obtain ⟨⟨o, e', nt⟩, _⟩ := s.zt a hz
  rw [e] at e'; cases e'; exact nt)
theorem Rp.le (s : SOk F w O H) (l : Le w O H w1 O1 H1) {v : Val} {x : V} (r : Rp F w O.length H v x) : Rp F w1 O1.length H1 v x :=
  Rp.mono l.len (fun k hk => (l.ad k hk).1) l.z (s.zk l) v x r
theorem RpL.le (s : SOk F w O H) (l : Le w O H w1 O1 H1) {v : List Val} {x : List V} (r : RpL F w O.length H v x) : RpL F w1 O1.length H1 v x :=
  RpL.mono l.len (fun k hk => (l.ad k hk).1) l.z (s.zk l) v x r
theorem RpO.le (s : SOk F w O H) (l : Le w O H w1 O1 H1) {v : List (Option Val)} {x : List (Option V)} (r : RpO F w O.length H v x) : RpO F w1 O1.length H1 v x :=
  RpO.mono l.len (fun k hk => (l.ad k hk).1) l.z (s.zk l) r

/-! ### the slots -/
structure ROk (F : Fx) (w : Wd) (n : Nat) (H : Hp) (ρ : Env) (σ : L2.St) : Prop where
  len : ρ.length = σ.length
  get : ∀ (i : Nat) (v : Val), ρ[i]? = some (some v) → ∃ x, σ[i]? = some (some x) ∧ Rp F w n H v x
theorem ROk.le (s : SOk F w O H) (l : Le w O H w1 O1 H1) {ρ : Env} {σ : L2.St} (r : ROk F w O.length H ρ σ) : ROk F w1 O1.length H1 ρ σ :=
  ⟨r.len, fun i v e => by
    obtain ⟨x, q1, q2⟩ := r.get i v e
    exact ⟨x, q1, q2.le s l⟩⟩
theorem ROk.set {n : Nat} {ρ : Env} {σ : L2.St} (r : ROk F w n H ρ σ) (i : Nat) {v : Val} {x : V} (q : Rp F w n H v x) : ROk F w n H (ρ.set i (some v)) (σ.set i (some x)) :=
  ⟨by rw [List.length_set, List.length_set]; exact r.len, fun j u e => by
    by_cases hj : i = j
    · subst hj
      by_cases hi : i < ρ.length
      · rw [List.getElem?_set_self hi] at e
        have e' : v = u := Option.some.inj (Option.some.inj e)
        subst e'
        exact ⟨x, List.getElem?_set_self (by rw [← r.len]; exact hi), q⟩
      · rw [List.getElem?_eq_none (by simpa using hi)] at e; cases e
    · rw [List.getElem?_set_ne hj] at e
      obtain ⟨y, q1, q2⟩ := r.get j u e
      exact ⟨y, by rw [List.getElem?_set_ne hj]; exact q1, q2⟩⟩
theorem ROk.unset {n : Nat} {ρ : Env} {σ : L2.St} (r : ROk F w n H ρ σ) (i : Nat) (o : Option V) : ROk F w n H (ρ.set i none) (σ.set i o) :=
  ⟨by rw [List.length_set, List.length_set]; exact r.len, fun j u e => by
    by_cases hj : i = j
    · subst hj
      by_cases hi : i < ρ.length
      · rw [List.getElem?_set_self hi] at e; cases e
      · rw [List.getElem?_eq_none (by simpa using hi)] at e; cases e
    · rw [List.getElem?_set_ne hj] at e
      obtain ⟨y, q1, q2⟩ := r.get j u e
      exact ⟨y, by rw [List.getElem?_set_ne hj]; exact q1, q2⟩⟩
theorem ROk.wipe {n : Nat} {ρ : Env} {σ : L2.St} (r : ROk F w n H ρ σ) : ∀ l : List Nat, ROk F w n H (Mn.wipe ρ l) (L2.wipe σ l)
  | [] => r
  | i :: l => (ROk.wipe r l).unset i none
end

/-! ### steps -/
abbrev Wd.seal (w : Wd) (p : Addr) : Wd := { w with Z := fun a => w.Z a ∨ a = p }
section
variable {F : Fx} {w w' : Wd} {O O' : Store} {H H' : Hp}
theorem HotC.eq {k : Nat} {a : Addr} {c : Cell} (e : w'.ad k = w.ad k) (e2 : w'.dx k = w.dx k) : HotC w' k a c ↔ HotC w k a c := by
  cases c with
  | lst b l => cases b <;> simp [HotC, e]
  | ins c fs => simp [HotC, e, e2]
theorem CellOk.mono {n n' k : Nat} {c : Cell} (h : CellOk F w n H k c) (hn : n ≤ n') (had : ∀ k, k < n → w'.ad k = w.ad k) (hz : ∀ a, w.Z a → w'.Z a) (hk : ∀ a u, w.Z a → H a = some u → H' a = some u)
    (e1 : w'.ad k = w.ad k) (e2 : w'.dx k = w.dx k) (k1 : ∀ u, H (w.ad k) = some u → H' (w.ad k) = some u) (k2 : (∃ e fs, c = .ins e fs) → ∀ u, H (w.dx k) = some u → H' (w.dx k) = some u) : CellOk F w' n' H' k c := by
  cases c with
  | lst b l =>
    cases b with
    | true =>
      obtain ⟨xs, q, r⟩ := h
      exact ⟨xs, by rw [e1]; exact k1 _ q, r.mono hn had hz hk⟩
    | false =>
      obtain ⟨z, xs, q, r⟩ := h
      exact ⟨by rw [e1]; exact hz _ z, xs, by rw [e1]; exact k1 _ q, r.mono hn had hz hk⟩
  | ins c fs =>
    obtain ⟨ne, ⟨o, ho, nt⟩, vs, q, r⟩ := h
    have k2 := k2 ⟨c, fs, rfl⟩
    exact ⟨by rw [e1, e2]; exact ne, ⟨o, by rw [e2]; exact k2 _ ho, nt⟩, vs, by rw [e1, e2]; exact Slt.keep q k1 k2, r.mono hn had hz hk⟩
/-- what a cell's addresses bear -/
theorem CellOk.there {n k : Nat} {c : Cell} (h : CellOk F w n H k c) : (∃ o, H (w.ad k) = some o ∧ NT o) ∧ ((∃ e fs, c = .ins e fs) → ∃ o, H (w.dx k) = some o ∧ NT o) := by
  cases c with
  | lst b l =>
    cases b with
    | true => obtain ⟨xs, q, _⟩ := h; exact ⟨⟨_, q, fun _ z => nomatch z⟩, fun ⟨_, _, z⟩ => nomatch z⟩
    | false => obtain ⟨_, xs, q, _⟩ := h; exact ⟨⟨_, q, fun _ z => nomatch z⟩, fun ⟨_, _, z⟩ => nomatch z⟩
  | ins c fs =>
    obtain ⟨_, ho, vs, q, _⟩ := h
    refine ⟨?_, fun _ => ho⟩
    rcases q with ⟨q, _⟩ | ⟨q, _⟩
    · exact ⟨_, q, fun _ z => nomatch z⟩
    · exact ⟨_, q, fun _ z => by unfold SlX.SlO at z; cases z⟩
theorem SOk.hot_there (s : SOk F w O H) {a : Addr} (h : Hot w O a) : ∃ o, H a = some o ∧ NT o := by
  obtain ⟨k, c, e, q⟩ := h
  obtain ⟨h1, h2⟩ := (s.cell k c e).there
  cases c with
  | lst b l =>
    cases b with
    | true => rw [← (show w.ad k = a from q)]; exact h1
    | false => exact (show False from q).elim
  | ins c fs =>
    rcases q with q | q
    · rw [← q]; exact h1
    · rw [← q]; exact h2 ⟨c, fs, rfl⟩
theorem SOk.hot_ne (s : SOk F w O H) {a : Addr} (h : Hot w O a) : H a ≠ none := by
  obtain ⟨o, e, _⟩ := s.hot_there h
  rw [e]; simp
theorem upd_keep {H : Hp} {p a : Addr} {o u : HO} (hp : H p = none) (h : H a = some u) : upd H p o a = some u := by
  rw [upd_ne (ne_of_none h hp)]; exact h

/-- something new, that never changes -/
theorem SOk.alloc (s : SOk F w O H) {p : Addr} (o : HO) (nt : NT o) (hp : H p = none) : SOk F (w.seal p) O (upd H p o) ∧ Le w O H (w.seal p) O (upd H p o) := by
  have hh : ∀ a, Hot (w.seal p) O a ↔ Hot w O a := fun a => ⟨fun ⟨k, c, e, q⟩ => ⟨k, c, e, (HotC.eq rfl rfl).mp q⟩, fun ⟨k, c, e, q⟩ => ⟨k, c, e, (HotC.eq rfl rfl).mpr q⟩⟩
  refine ⟨⟨fun a z => ?_, s.tab.keep (fun _ z => .inl z) fun a u e _ => upd_keep hp e, fun k c e => ?_, fun j k c d a e1 e2 q1 q2 => s.inj j k c d a e1 e2 ((HotC.eq rfl rfl).mp q1) ((HotC.eq rfl rfl).mp q2)⟩, ⟨Nat.le_refl _, fun _ _ => ⟨rfl, rfl⟩, fun a z => .inl z, fun a u e _ _ => upd_keep hp e, fun a z => ?_, fun a q => .inl ((hh a).mp q), fun a u e => ⟨u, upd_keep hp e⟩⟩⟩
  · rcases z with z | rfl
    · obtain ⟨⟨u, e, nu⟩, n⟩ := s.zt a z
      exact ⟨⟨u, upd_keep hp e, nu⟩, fun q => n ((hh a).mp q)⟩
    · exact ⟨⟨o, upd_same, nt⟩, fun q => s.hot_ne ((hh _).mp q) hp⟩
  · exact (s.cell k c e).mono (Nat.le_refl _) (fun _ _ => rfl) (fun a z => .inl z) (fun a u _ q => upd_keep hp q) rfl rfl (fun u q => upd_keep hp q) fun _ u q => upd_keep hp q
  · rcases z with z | rfl
    · exact .inl z
    · exact .inr (.inl hp)
/-- an address that never changes any more -/
theorem get_append_new {O : Store} {c d : Cell} {k : Nat} (h : (O ++ [c])[k]? = some d) : O[k]? = some d ∨ (k = O.length ∧ d = c) := by
  by_cases hk : k < O.length
  · rw [List.getElem?_append_left hk] at h; exact .inl h
  · have hk' : O.length ≤ k := Nat.le_of_not_lt hk
    rw [List.getElem?_append_right hk'] at h
    cases hq : k - O.length with
    | zero =>
      rw [hq] at h
      have h' : c = d := by simpa using h
      exact .inr ⟨by omega, h'.symm⟩
    | succ m => rw [hq] at h; simp at h
theorem getElem_lt {O : Store} {c : Cell} {k : Nat} (h : O[k]? = some c) : k < O.length := (List.getElem?_eq_some_iff.mp h).1
abbrev Wd.new (w : Wd) (n : Nat) (p dx : Addr) : Wd := { w with ad := fun k => if k = n then p else w.ad k, dx := fun k => if k = n then dx else w.dx k }
theorem Wd.new_ad {n k : Nat} {p d : Addr} (h : k < n) : (w.new n p d).ad k = w.ad k ∧ (w.new n p d).dx k = w.dx k := by
  have : k ≠ n := by omega
  simp [this]
/-- a new cell: its addresses were nothing's -/
theorem SOk.push (s : SOk F w O H) {p d : Addr} {c : Cell} (hp : H p = none) (hd : d ≠ p → H d = none) (k1 : ∀ a, a ≠ p → a ≠ d → H' a = H a) (t1 : ∃ o, H' p = some o) (hc : CellOk F (w.new O.length p d) (O.length + 1) H' O.length c)
    (hot : ∀ a, HotC (w.new O.length p d) O.length a c → a = p ∨ (a = d ∧ H d = none)) (kd : d ≠ p → (H' d = H d ∨ (H d = none ∧ ∃ o, H' d = some o))) :
    SOk F (w.new O.length p d) (O ++ [c]) H' ∧ Le w O H (w.new O.length p d) (O ++ [c]) H' := by
  have keep : ∀ a u, H a = some u → H' a = some u := fun a u e => by
    have a1 : a ≠ p := ne_of_none e hp
    by_cases a2 : a = d
    · subst a2
      rw [hd a1] at e; cases e
    · rw [k1 a a1 a2]; exact e
  have hcut : ∀ k c', (O ++ [c])[k]? = some c' → ∀ a, HotC (w.new O.length p d) k a c' → (k < O.length ∧ O[k]? = some c' ∧ HotC w k a c') ∨ (k = O.length ∧ H a = none) := fun k c' e a q => by
    rcases get_append_new e with e | ⟨e1, e2⟩
    · have hk := getElem_lt e
      obtain ⟨x1, x2⟩ := Wd.new_ad (w := w) (p := p) (d := d) hk
      exact .inl ⟨hk, e, (HotC.eq x1 x2).mp q⟩
    · subst e1 e2
      rcases hot a q with q | ⟨q, q'⟩
      · exact .inr ⟨rfl, by rw [q]; exact hp⟩
      · exact .inr ⟨rfl, by rw [q]; exact q'⟩
  have hh : ∀ a, Hot (w.new O.length p d) (O ++ [c]) a → Hot w O a ∨ H a = none := fun a ⟨k, c', e, q⟩ => by
    rcases hcut k c' e a q with ⟨_, e, q⟩ | ⟨_, q⟩
    · exact .inl ⟨k, c', e, q⟩
    · exact .inr q
  refine ⟨⟨fun a z => ?_, s.tab.keep (fun _ z => z) fun a u e _ => keep a u e, fun k c' e => ?_, fun j k c' d' a e1 e2 q1 q2 => ?_⟩, ⟨by simp, fun k hk => Wd.new_ad hk, fun a z => z, fun a u e _ _ => keep a u e, fun a z => .inl z, hh, fun a u e => ⟨u, keep a u e⟩⟩⟩
  · obtain ⟨⟨u, e, nt⟩, n⟩ := s.zt a z
    refine ⟨⟨u, keep a u e, nt⟩, fun q => ?_⟩
    rcases hh a q with q | q
    · exact n q
    · rw [e] at q; cases q
  · rw [List.length_append]
    rcases get_append_new e with e | ⟨e1, e2⟩
    · have hk := getElem_lt e
      obtain ⟨x1, x2⟩ := Wd.new_ad (w := w) (p := p) (d := d) hk
      exact (s.cell k c' e).mono (Nat.le_succ _) (fun k hk => (Wd.new_ad hk).1) (fun a z => z) (fun a u _ q => keep a u q) x1 x2 (fun u q => keep _ u q) fun _ u q => keep _ u q
    · subst e1 e2
      exact hc
  · rcases hcut j c' e1 a q1 with ⟨hj, e1, q1⟩ | ⟨hj, q1⟩
    · rcases hcut k d' e2 a q2 with ⟨hk, e2, q2⟩ | ⟨hk, q2⟩
      · exact s.inj j k c' d' a e1 e2 q1 q2
      · exact absurd q2 (s.hot_ne ⟨j, c', e1, q1⟩)
    · rcases hcut k d' e2 a q2 with ⟨hk, e2, q2⟩ | ⟨hk, q2⟩
      · exact absurd q1 (s.hot_ne ⟨k, d', e2, q2⟩)
      · rw [hj, hk]
/-- a new list that will change -/
theorem SOk.live (s : SOk F w O H) {p : Addr} {l : List Val} {xs : List V} (hp : H p = none) (r : RpL F w O.length H l xs) :
    SOk F (w.new O.length p p) (O ++ [.lst true l]) (upd H p (.lst xs)) ∧ Le w O H (w.new O.length p p) (O ++ [.lst true l]) (upd H p (.lst xs)) := by
  refine s.push (d := p) hp (fun z => absurd rfl z) (fun a h _ => upd_ne h) ⟨_, upd_same⟩ ⟨xs, by simp [upd_same], ?_⟩ (fun a q => .inl ?_) (fun z => absurd rfl z)
  · exact r.mono (Nat.le_succ _) (fun k hk => (Wd.new_ad hk).1) (fun a z => z) fun a u _ q => upd_keep hp q
  · have q' : (w.new O.length p p).ad O.length = a := q
    simp at q'
    exact q'.symm
/-- a cell is changed where it lies -/
theorem SOk.put (s : SOk F w O H) {k : Nat} {c c' : Cell} (e : O[k]? = some c) (w' : Wd) (had : ∀ k, w'.ad k = w.ad k) (hdx : ∀ k, w'.dx k = w.dx k) (hz : ∀ a, w.Z a → w'.Z a) (hzn : ∀ a, w'.Z a → w.Z a ∨ (HotC w k a c ∧ ¬ HotC w k a c'))
    (hot : ∀ a, HotC w k a c' → HotC w k a c) (k1 : ∀ a, ¬ HotC w k a c → H' a = H a) (k2 : ∀ a u, HotC w k a c → H a = some u → ∃ u', H' a = some u' ∧ NT u') (hc : CellOk F w' O.length H' k c') :
    SOk F w' (O.set k c') H' ∧ Le w O H w' (O.set k c') H' := by
  have hk := getElem_lt e
  have sp : ∀ j d, (O.set k c')[j]? = some d → (j = k ∧ d = c') ∨ (j ≠ k ∧ O[j]? = some d) := fun j d q => by
    by_cases hj : k = j
    · subst hj
      rw [List.getElem?_set_self hk] at q
      exact .inl ⟨rfl, (Option.some.inj q).symm⟩
    · rw [List.getElem?_set_ne hj] at q
      exact .inr ⟨fun z => hj z.symm, q⟩
  have hh : ∀ a, Hot w' (O.set k c') a → Hot w O a := fun a ⟨j, d, q, r⟩ => by
    rcases sp j d q with ⟨e1, e2⟩ | ⟨_, q⟩
    · subst e1 e2
      exact ⟨j, c, e, hot a ((HotC.eq (had j) (hdx j)).mp r)⟩
    · exact ⟨j, d, q, (HotC.eq (had j) (hdx j)).mp r⟩
  have keep : ∀ a u, H a = some u → ¬ HotC w k a c → H' a = some u := fun a u q n => by rw [k1 a n]; exact q
  refine ⟨⟨fun a z => ?_, s.tab.keep hz fun a u q z => keep a u q fun r => ?_, fun j d q => ?_, fun i j d d' a e1 e2 q1 q2 => ?_⟩, ⟨by simp, fun j _ => ⟨had j, hdx j⟩, hz, fun a u q n _ => keep a u q fun r => n ⟨k, c, e, r⟩, fun a z => ?_, fun a q => .inl (hh a q), fun a u q => ?_⟩⟩
  · rcases hzn a z with z | ⟨z1, z2⟩
    · obtain ⟨⟨u, q, nt⟩, n⟩ := s.zt a z
      exact ⟨⟨u, keep a u q fun r => n ⟨k, c, e, r⟩, nt⟩, fun r => n (hh a r)⟩
    · obtain ⟨u, q, _⟩ := s.hot_there ⟨k, c, e, z1⟩
      refine ⟨k2 a u z1 q, fun ⟨j, d, r1, r2⟩ => ?_⟩
      rcases sp j d r1 with ⟨e1, e2⟩ | ⟨nj, r1⟩
      · subst e1 e2
        exact z2 ((HotC.eq (had j) (hdx j)).mp r2)
      · exact nj (s.inj j k d c a r1 e ((HotC.eq (had j) (hdx j)).mp r2) z1)
  · rcases z with z | ⟨ps, z⟩
    · exact (s.zt a z).2 ⟨k, c, e, r⟩
    · obtain ⟨u', q', nt⟩ := s.hot_there ⟨k, c, e, r⟩
      rw [q] at q'; cases q'
      exact nt ps z
  · rw [List.length_set]
    rcases sp j d q with ⟨e1, e2⟩ | ⟨nj, q⟩
    · subst e1 e2
      exact hc
    · have nh : ∀ a, (w.ad j = a ∨ ((∃ e fs, d = .ins e fs) ∧ w.dx j = a)) → ¬ HotC w k a c := fun a h r => by
        cases d with
        | lst b l =>
          cases b with
          | true =>
            rcases h with h | ⟨⟨_, _, z⟩, _⟩
            · exact nj (s.inj j k _ c a q e h r)
            · cases z
          | false =>
            rcases h with h | ⟨⟨_, _, z⟩, _⟩
            · obtain ⟨z, _⟩ := s.cell j _ q
              rw [h] at z
              exact (s.zt a z).2 ⟨k, c, e, r⟩
            · cases z
        | ins c0 fs =>
          rcases h with h | ⟨_, h⟩
          · exact nj (s.inj j k _ c a q e (.inl h) r)
          · exact nj (s.inj j k _ c a q e (.inr h) r)
      exact (s.cell j d q).mono (Nat.le_refl _) (fun k _ => had k) hz (fun a u z q => keep a u q fun r => (s.zt a z).2 ⟨k, c, e, r⟩) (had j) (hdx j) (fun u q => keep _ u q (nh _ (.inl rfl))) fun z u q => keep _ u q (nh _ (.inr ⟨z, rfl⟩))
  · rcases sp i d e1 with ⟨i1, i2⟩ | ⟨ni, f1⟩
    · subst i1 i2
      rcases sp j d' e2 with ⟨j1, j2⟩ | ⟨nj, f2⟩
      · exact j1.symm
      · exact s.inj i j c d' a e f2 (hot a ((HotC.eq (had i) (hdx i)).mp q1)) ((HotC.eq (had j) (hdx j)).mp q2)
    · rcases sp j d' e2 with ⟨j1, j2⟩ | ⟨nj, f2⟩
      · rw [j1]
        rw [j1, j2] at q2
        exact s.inj i k d c a f1 e ((HotC.eq (had i) (hdx i)).mp q1) (hot a ((HotC.eq (had k) (hdx k)).mp q2))
      · exact s.inj i j d d' a f1 f2 ((HotC.eq (had i) (hdx i)).mp q1) ((HotC.eq (had j) (hdx j)).mp q2)
  · rcases hzn a z with z | ⟨z1, _⟩
    · exact .inl z
    · exact .inr (.inr ⟨k, c, e, z1⟩)
  · by_cases r : HotC w k a c
    · obtain ⟨u', q', _⟩ := k2 a u r q
      exact ⟨u', q'⟩
    · exact ⟨u, keep a u q r⟩
/-- a live list is written -/
theorem SOk.write (s : SOk F w O H) {k : Nat} {l l' : List Val} {xs' : List V} (e : O[k]? = some (.lst true l)) (r : RpL F w O.length H l' xs') :
    SOk F w (O.set k (.lst true l')) (upd H (w.ad k) (.lst xs')) ∧ Le w O H w (O.set k (.lst true l')) (upd H (w.ad k) (.lst xs')) := by
  refine s.put e w (fun _ => rfl) (fun _ => rfl) (fun _ z => z) (fun _ z => .inl z) (fun _ q => q) (fun a n => upd_ne fun z => n z.symm) (fun a u q _ => ⟨.lst xs', by rw [← (show w.ad k = a from q)]; exact upd_same, fun _ z => nomatch z⟩) ⟨xs', upd_same, ?_⟩
  exact r.mono (Nat.le_refl _) (fun _ _ => rfl) (fun _ z => z) fun a u z q => by
    rw [upd_ne]
    · exact q
    · intro h
      subst h
      exact (s.zt _ z).2 ⟨k, _, e, rfl⟩
/-- a list is closed -/
theorem SOk.close (s : SOk F w O H) {k : Nat} {b : Bool} {l l' : List Val} (e : O[k]? = some (.lst b l)) (r0 : ∀ xs, H (w.ad k) = some (.lst xs) → RpL F w O.length H l xs → RpL F w O.length H l' xs) :
    SOk F (w.seal (w.ad k)) (O.set k (.lst false l')) H ∧ Le w O H (w.seal (w.ad k)) (O.set k (.lst false l')) H ∧ Rp F (w.seal (w.ad k)) O.length H (.lst l') (.ref (w.ad k)) := by
  have c := s.cell k _ e
  obtain ⟨xs, q, rx⟩ : ∃ xs, H (w.ad k) = some (.lst xs) ∧ RpL F w O.length H l xs := by
    cases b with
    | true => exact c
    | false => exact c.2
  have r : ∀ xs, H (w.ad k) = some (.lst xs) → RpL F w O.length H l xs → RpL F (w.seal (w.ad k)) O.length H l' xs := fun xs q rx => RpL.mono (w := w) (w' := w.seal (w.ad k)) (Nat.le_refl _) (fun _ _ => rfl) (fun _ z => Or.inl z) (fun _ _ _ q => q) _ _ (r0 xs q rx)
  have step := s.put (H' := H) (c' := .lst false l') e (w.seal (w.ad k)) (fun _ => rfl) (fun _ => rfl) (fun _ z => .inl z) (fun a z => by
    rcases z with z | z
    · exact .inl z
    · cases b with
      | true => exact .inr ⟨z.symm, fun h => h⟩
      | false => rw [z]; exact .inl c.1) (fun _ h => False.elim h) (fun _ _ => rfl) (fun a u q h => by
    obtain ⟨u', q', nt⟩ := s.hot_there ⟨k, _, e, q⟩
    exact ⟨u', q', nt⟩) ⟨.inr rfl, xs, q, r xs q rx⟩
  exact ⟨step.1, step.2, w.ad k, xs, rfl, .inr rfl, q, r xs q rx⟩
/-- fewer cells -/
theorem SOk.take (s : SOk F w O H) (n : Nat) (h : cellsLt (O.take n).length (O.take n) = true) : SOk F w (O.take n) H := by
  have sp : ∀ k c, (O.take n)[k]? = some c → O[k]? = some c := fun k c e => by
    rw [List.getElem?_take] at e
    split at e
    · exact e
    · cases e
  have cl : ∀ (m : Nat) (l : Store), cellsLt m l = true → ∀ (k : Nat) (c : Cell), l[k]? = some c → c.lt m = true := fun m l => by
    induction l with
    | nil => intro _ k c e; simp at e
    | cons d r ih =>
      intro h k c e
      have h' : d.lt m = true ∧ cellsLt m r = true := by simpa [cellsLt, Bool.and_eq_true] using h
      cases k with
      | zero =>
        have : d = c := by simpa using e
        rw [← this]; exact h'.1
      | succ k => exact ih h'.2 k c (by simpa using e)
  refine ⟨fun a z => ?_, s.tab, fun k c e => ?_, fun j k c d a e1 e2 => s.inj j k c d a (sp j c e1) (sp k d e2)⟩
  · obtain ⟨h1, h2⟩ := s.zt a z
    exact ⟨h1, fun ⟨k, c, e, q⟩ => h2 ⟨k, c, sp k c e, q⟩⟩
  · have lt := cl _ _ h k c e
    have q := s.cell k c (sp k c e)
    cases c with
    | lst b l =>
      cases b with
      | true => obtain ⟨xs, q1, q2⟩ := q; exact ⟨xs, q1, RpL.lt l xs q2 lt⟩
      | false => obtain ⟨z, xs, q1, q2⟩ := q; exact ⟨z, xs, q1, RpL.lt l xs q2 lt⟩
    | ins c fs =>
      obtain ⟨h1, h2, vs, h3, h4⟩ := q
      have lo : ∀ (fs : List (Option Val)), ltOpt (O.take n).length fs = true → ∀ (i : Nat) v, fs[i]? = some (some v) → v.lt (O.take n).length = true := fun fs => by
        induction fs with
        | nil => intro _ i v e; simp at e
        | cons f r ih =>
          intro h i v e
          cases f with
          | none =>
            cases i with
            | zero => simp at e
            | succ i => exact ih (by simpa [ltOpt] using h) i v (by simpa using e)
          | some u =>
            have h' : u.lt (O.take n).length = true ∧ ltOpt (O.take n).length r = true := by simpa [ltOpt, Bool.and_eq_true] using h
            cases i with
            | zero =>
              have : u = v := by simpa using e
              rw [← this]; exact h'.1
            | succ i => exact ih h'.2 i v (by simpa using e)
      refine ⟨h1, h2, vs, h3, fun i v e => ?_⟩
      obtain ⟨x, q1, q2⟩ := h4 i v e
      exact ⟨x, q1, Rp.lt v x q2 (lo fs lt i v e)⟩
theorem Le.take {w0 : Wd} {O0 : Store} {H0 : Hp} (l : Le w0 O0 H0 w O H) (n : Nat) (hn : O0.length ≤ n) : Le w0 O0 H0 w (O.take n) H :=
  ⟨by rw [List.length_take]; have := l.len; omega, l.ad, l.z, l.keep, l.znew, fun a ⟨k, c, e, q⟩ => l.hot a ⟨k, c, (by
    rw [List.getElem?_take] at e
    split at e
    · exact e
    · cases e), q⟩, l.there⟩

/-! ### instances in the making -/
theorem RpO.nil {n m : Nat} : RpO F w n H (List.replicate m none) [] := fun i v e => by
  rw [List.getElem?_replicate] at e
  split at e <;> cases e
/-- C(..): the bare instance -/
theorem SOk.made0 (s : SOk F w O H) {x d : Addr} {c m : Nat} (hx : H x = none) (hd : H d = none) (ne : d ≠ x) :
    SOk F (w.new O.length x d) (O ++ [.ins c (List.replicate m none)]) (upd (upd H d (.own x)) x (.ins (F.ca c) d [])) ∧
    Le w O H (w.new O.length x d) (O ++ [.ins c (List.replicate m none)]) (upd (upd H d (.own x)) x (.ins (F.ca c) d [])) := by
  refine s.push hx (fun _ => hd) (fun a h1 h2 => by rw [upd_ne h1, upd_ne h2]) ⟨_, upd_same⟩ ⟨by simpa using ne, ⟨.own x, by simp [upd_ne ne, upd_same], fun _ z => by cases z⟩, [], .inl ⟨by simp [upd_same], rfl⟩, RpO.nil⟩
    (fun a q => ?_) fun _ => .inr ⟨hd, _, by rw [upd_ne ne, upd_same]⟩
  have q' : (w.new O.length x d).ad O.length = a ∨ (w.new O.length x d).dx O.length = a := q
  simp at q'
  rcases q' with q' | q'
  · exact .inl q'.symm
  · exact .inr ⟨q'.symm, hd⟩
theorem RpO.put {n : Nat} {fs : List (Option Val)} {vs : List (Option V)} (h : RpO F w n H fs vs) (i : Nat) {v : Val} {x : V} (r : Rp F w n H v x) : RpO F w n H (fs.set i (some v)) (SlX.putS i x vs) := fun j u e => by
  by_cases hj : i = j
  · subst hj
    by_cases hi : i < fs.length
    · rw [List.getElem?_set_self hi] at e
      have e' : v = u := Option.some.inj (Option.some.inj e)
      subst e'
      exact ⟨x, SlX.putS_get i x vs, r⟩
    · rw [List.getElem?_eq_none (by simpa using hi)] at e; cases e
  · rw [List.getElem?_set_ne hj] at e
    obtain ⟨y, q1, q2⟩ := h j u e
    exact ⟨y, (SlX.putS_ne fun z => hj z.symm).mpr q1, q2⟩
/-- o.f = v in __init__ -/
theorem SOk.fld (s : SOk F w O H) {k c : Nat} {fs : List (Option Val)} (e : O[k]? = some (.ins c fs)) (i : Nat) {v : Val} {x : V} (r : Rp F w O.length H v x) :
    ∃ vs, SlX.Slt H (w.ad k) (F.ca c) (w.dx k) vs ∧ SOk F w (O.set k (.ins c (fs.set i (some v)))) (SlX.slH H (w.ad k) (F.ca c) (w.dx k) (SlX.putS i x vs)) ∧
      Le w O H w (O.set k (.ins c (fs.set i (some v)))) (SlX.slH H (w.ad k) (F.ca c) (w.dx k) (SlX.putS i x vs)) := by
  obtain ⟨ne, ⟨o, ho, nt⟩, vs, q, ro⟩ : CellOk F w O.length H k (.ins c fs) := s.cell k _ e
  refine ⟨vs, q, s.put e w (fun _ => rfl) (fun _ => rfl) (fun _ z => z) (fun _ z => .inl z) (fun _ q => q) (fun a n => SlX.slH_ne (fun z => n (.inl z.symm)) fun z => n (.inr z.symm)) (fun a u h _ => ?_) ?_⟩
  · have h' : w.ad k = a ∨ w.dx k = a := h
    by_cases ha : w.ad k = a
    · subst ha
      exact ⟨_, by unfold SlX.slH; exact upd_same, fun _ z => by unfold SlX.SlO at z; cases z⟩
    · rcases h' with h' | h'
      · exact absurd h' ha
      · subst h'
        exact ⟨.xd [], by unfold SlX.slH; rw [upd_ne ne, upd_same], fun _ z => by cases z⟩
  · have zk : ∀ a u, w.Z a → H a = some u → SlX.slH H (w.ad k) (F.ca c) (w.dx k) (SlX.putS i x vs) a = some u := fun a u z q => by
      rw [SlX.slH_ne]
      · exact q
      · intro h
        exact (s.zt a z).2 ⟨k, _, e, .inl h.symm⟩
      · intro h
        exact (s.zt a z).2 ⟨k, _, e, .inr h.symm⟩
    refine ⟨ne, ⟨.xd [], by unfold SlX.slH; rw [upd_ne ne, upd_same], fun _ z => by cases z⟩, _, SlX.slH_slt ne, ?_⟩
    exact RpO.put (ro.mono (Nat.le_refl _) (fun _ _ => rfl) (fun _ z => z) zk) i (Rp.mono (Nat.le_refl _) (fun _ _ => rfl) (fun _ z => z) zk v x r)
theorem allSome_get : ∀ {fs : List (Option Val)} {l : List Val}, allSome fs = some l → fs = l.map some
  | [], l, h => by
    have h' : some ([] : List Val) = some l := h
    cases h'; rfl
  | none :: r, l, h => by cases h
  | some v :: r, l, h => by
    unfold allSome at h
    cases q : allSome r with
    | none => rw [q] at h; cases h
    | some m =>
      rw [q] at h
      cases h
      rw [List.map_cons, ← allSome_get q]
theorem RpO.all {n : Nat} : ∀ {l : List Val} {vs : List (Option V)}, RpO F w n H (l.map some) vs → ∃ xs, RpL F w n H l xs ∧ ∀ (i : Nat) (y : V), xs[i]? = some y → vs[i]? = some (some y)
  | [], _, _ => ⟨[], rfl, fun i y e => by simp at e⟩
  | v :: r, vs, h => by
    obtain ⟨x, q1, q2⟩ := h 0 v rfl
    obtain ⟨xs, r1, r2⟩ := RpO.all (l := r) (vs := vs.drop 1) fun i u e => by
      obtain ⟨y, p1, p2⟩ := h (i + 1) u (by simpa using e)
      exact ⟨y, by rw [List.getElem?_drop, Nat.add_comm]; exact p1, p2⟩
    refine ⟨x :: xs, ⟨x, xs, rfl, q2, r1⟩, fun i y e => ?_⟩
    cases i with
    | zero =>
      have e' : x = y := by simpa using e
      rw [← e']; exact q1
    | succ i =>
      have z := r2 i y (by simpa using e)
      rw [List.getElem?_drop, Nat.add_comm] at z
      exact z
/-- behind __init__: the instance never changes any more -/
theorem SOk.made (s : SOk F w O H) {k : Nat} {v : Val} {O' : Store} (e : made k O = some (v, O')) {w0 : Wd} {O0 : Store} {H0 : Hp} (l : Le w0 O0 H0 w O H) (hk : k = O0.length) :
    ∃ w', SOk F w' O' H ∧ Le w0 O0 H0 w' O' H ∧ Rp F w' O'.length H v (.ref (w.ad k)) := by
  unfold Mn.made at e
  split at e
  · rename_i c fs hc
    split at e
    · rename_i m hm
      split at e
      · rename_i hl
        cases e
        have hl' : ltAll k m = true ∧ cellsLt k (O.take k) = true := by simpa [Bool.and_eq_true] using hl
        have hkl := getElem_lt hc
        have lk : (O.take k).length = k := by rw [List.length_take]; omega
        obtain ⟨ne, ⟨o, ho, nt⟩, vs, q, ro⟩ : CellOk F w O.length H k (.ins c fs) := s.cell k _ hc
        obtain ⟨xs, r1, r2⟩ := RpO.all (by rw [← allSome_get hm]; exact ro)
        have st := s.take k (by rw [lk]; exact hl'.2)
        have lt := l.take k (by omega)
        have nh : ∀ a, (w.ad k = a ∨ w.dx k = a) → ¬ Hot w (O.take k) a := fun a h ⟨j, d, e, q⟩ => by
          have hj : j < k := by
            have := getElem_lt e
            omega
          rw [List.getElem?_take_of_lt hj] at e
          have := s.inj j k d _ a e hc q h
          omega
        have t1 := (s.cell k _ hc).there
        refine ⟨{ w with Z := fun a => w.Z a ∨ a = w.ad k ∨ a = w.dx k }, ⟨fun a z => ?_, st.tab.keep (fun _ z => .inl z) fun _ _ e _ => e, fun j d e => ?_, fun i j d d' a e1 e2 q1 q2 => ?_⟩, ⟨lt.len, lt.ad, fun a z => .inl (lt.z a z), lt.keep, fun a z => ?_, fun a h => ?_, lt.there⟩, ?_⟩
        · have hh : ∀ a, Hot { w with Z := fun a => w.Z a ∨ a = w.ad k ∨ a = w.dx k } (O.take k) a → Hot w (O.take k) a := fun a ⟨j, d, e, q⟩ => ⟨j, d, e, (HotC.eq rfl rfl).mp q⟩
          rcases z with z | z | z
          · exact ⟨(st.zt a z).1, fun h => (st.zt a z).2 (hh a h)⟩
          · subst z
            exact ⟨t1.1, fun h => nh _ (.inl rfl) (hh _ h)⟩
          · subst z
            exact ⟨⟨o, ho, nt⟩, fun h => nh _ (.inr rfl) (hh _ h)⟩
        · exact (st.cell j d e).mono (Nat.le_refl _) (fun _ _ => rfl) (fun _ z => .inl z) (fun _ _ _ q => q) rfl rfl (fun _ q => q) fun _ _ q => q
        · exact st.inj i j d d' a e1 e2 ((HotC.eq rfl rfl).mp q1) ((HotC.eq rfl rfl).mp q2)
        · have hot0 : ∀ a, (w.ad k = a ∨ w.dx k = a) → w0.Z a ∨ H0 a = none ∨ Hot w0 O0 a := fun a h => by
            rcases l.hot a ⟨k, _, hc, h⟩ with q | q
            · exact .inr (.inr q)
            · exact .inr (.inl q)
          rcases z with z | z | z
          · exact lt.znew a z
          · exact hot0 a (.inl z.symm)
          · exact hot0 a (.inr z.symm)
        · obtain ⟨j, d, e, q⟩ := h
          exact lt.hot a ⟨j, d, e, (HotC.eq rfl rfl).mp q⟩
        · rw [lk]
          have ml : ∀ {l : List Val} {xs : List V}, RpL F w k H l xs → RpL F { w with Z := fun a => w.Z a ∨ a = w.ad k ∨ a = w.dx k } k H l xs := fun {l xs} r => RpL.mono (w := w) (w' := { w with Z := fun a => w.Z a ∨ a = w.ad k ∨ a = w.dx k }) (Nat.le_refl _) (fun _ _ => rfl) (fun _ z => Or.inl z) (fun _ _ _ q => q) l xs r
          exact ⟨w.ad k, w.dx k, vs, xs, rfl, .inr (.inl rfl), .inr (.inr rfl), q, ml (RpL.lt m xs r1 hl'.1), r2⟩
      · cases e
    · cases e
  · cases e
end
end Mn
end

section
set_option Elab.async false
set_option linter.all false
set_option maxRecDepth 100000
/-! M2a: readings by the interpreter; operators, comparisons, subscripts. -/
namespace L2
open PySem PySem.Spec PyProof.Rows
theorem PE.imp {X : Cx} {e : Expr} {t t' : TE} (h : PE X e t) (q : ∀ σ H Q, t' σ H Q → t σ H Q) : PE X e t' := ⟨fun pins s σ H Q I z => h.run pins s σ H Q I (q σ H Q z)⟩
theorem PT.imp {X : Cx} {e : Expr} {t t' : TT} (h : PT X e t) (q : ∀ σ H Q, t' σ H Q → t σ H Q) : PT X e t' := ⟨fun pins s σ H Q I z => h.run pins s σ H Q I (q σ H Q z)⟩
theorem PA.imp {X : Cx} {e : List Expr} {t t' : TA} (h : PA X e t) (q : ∀ σ H Q, t' σ H Q → t σ H Q) : PA X e t' := ⟨fun pos pins s σ H Q I z => h.run pos pins s σ H Q I (q σ H Q z)⟩
theorem PS.imp {X : Cx} {e : Stmt} {t t' : TS} (h : PS X e t) (q : ∀ D σ H, t' D σ H → t D σ H) : PS X e t' := ⟨fun pins s σ H D I z => h.run pins s σ H D I (q D σ H z)⟩
theorem PSs.imp {X : Cx} {e : List Stmt} {t t' : TS} (h : PSs X e t) (q : ∀ D σ H, t' D σ H → t D σ H) : PSs X e t' := ⟨fun pins s σ H D I z => h.run pins s σ H D I (q D σ H z)⟩
theorem PG.imp {X : Cx} {e : Expr} {t t' : TG} (h : PG X e t) (q : ∀ v σ H Q, t' v σ H Q → t v σ H Q) : PG X e t' := ⟨fun pins s σ H v u Q I r z => h.run pins s σ H v u Q I r (q v σ H Q z)⟩
theorem PI.imp {X : Cx} {tg e : Expr} {t t' : TI} (h : PI X tg e t) (q : ∀ σ H R, t' σ H R → t σ H R) : PI X tg e t' := ⟨fun pins s σ H R I z => h.run pins s σ H R I (q σ H R z)⟩

end L2
namespace Mn
open PySem PySem.Spec PyProof.Rows L2

/-- what an exception is told by -/
def ExR (F : Fx) (w : Wd) (n : Nat) (H : Hp) (c : Nat) (p : List Val) (cls : Value) (d : Option Addr) : Prop := c < F.ne ∧ cls = .ref (F.ea c) ∧ match p with
  | [] => d = none
  | [v] => ∃ (da : Addr) (x : V), d = some da ∧ H da = some (.xd [(F.xf c, x)]) ∧ Rp F w n H v x
  | _ => False
def Pst {α : Type} (F : Fx) (w : Wd) (O : Store) (H : Hp) (r : Res α) (R : α → Wd → Store → Hp → Prop) (E : XK) : Prop :=
  match r with
  | .ok a O' => ∀ w' H', SOk F w' O' H' → Le w O H w' O' H' → R a w' O' H'
  | .exc c p O' => ∀ w' H', SOk F w' O' H' → Le w O H w' O' H' → ∀ cls d, ExR F w' O'.length H' c p cls d → E cls d H'
  | .bad => False
/-- a value is told -/
def RE (F : Fx) (Q : VK) : Val → Wd → Store → Hp → Prop := fun v w O H => ∀ x, Rp F w O.length H v x → Q x H
def TEv (F : Fx) (E : L2.St → XK) (f : Env → Store → Res Val) : TE := fun σ H Q => ∃ w ρ O, SOk F w O H ∧ ROk F w O.length H ρ σ ∧ Pst F w O H (f ρ O) (RE F Q) (E σ)

section
variable {F : Fx} {w w1 : Wd} {O O1 : Store} {H H1 : Hp} {E : XK}
theorem Pst.after {α : Type} {r : Res α} {R : α → Wd → Store → Hp → Prop} (h : Pst F w O H r R E) (l : Le w O H w1 O1 H1) : Pst F w1 O1 H1 r R E := by
  cases r with
  | ok a O' => exact fun w' H' s l' => h w' H' s (l.trans l')
  | exc c p O' => exact fun w' H' s l' => h w' H' s (l.trans l')
  | bad => exact h
theorem Pst.imp {α : Type} {r : Res α} {R R' : α → Wd → Store → Hp → Prop} (h : Pst F w O H r R E) (q : ∀ a w' O' H', SOk F w' O' H' → Le w O H w' O' H' → R a w' O' H' → R' a w' O' H') : Pst F w O H r R' E := by
  cases r with
  | ok a O' => exact fun w' H' s l' => q a w' O' H' s l' (h w' H' s l')
  | exc c p O' => exact h
  | bad => exact h
theorem Pst.impE {α : Type} {r : Res α} {R R' : α → Wd → Store → Hp → Prop} (h : Pst F w O H r R E) (q : ∀ a w' O' H', r = .ok a O' → SOk F w' O' H' → Le w O H w' O' H' → R a w' O' H' → R' a w' O' H') : Pst F w O H r R' E := by
  cases r with
  | ok a O' => exact fun w' H' s l' => q a w' O' H' rfl s l' (h w' H' s l')
  | exc c p O' => exact h
  | bad => exact h
/-- the end is reached -/
theorem Pst.here {α : Type} {a : α} {R : α → Wd → Store → Hp → Prop} (h : Pst F w O H (.ok a O) R E) (s : SOk F w O H) : R a w O H := h w H s Le.refl
theorem Pst.here' {α : Type} {a : α} {R : α → Wd → Store → Hp → Prop} (h : Pst F w O H (.ok a O1) R E) (s : SOk F w1 O1 H1) (l : Le w O H w1 O1 H1) : R a w1 O1 H1 := h w1 H1 s l
theorem Pst.bind {α β : Type} {r : Res α} {f : α → Store → Res β} {R : β → Wd → Store → Hp → Prop} (h : Pst F w O H (r.bind f) R E) : Pst F w O H r (fun a w1 O1 H1 => Pst F w1 O1 H1 (f a O1) R E) E := by
  cases r with
  | ok a O' =>
    intro w' H' s l
    have h' : Pst F w O H (f a O') R E := h
    exact h'.after l
  | exc c p O' => exact h
  | bad => exact h
theorem Pst.bind0 {α β : Type} {r : Res α} {f : α → Store → Res β} {R : β → Wd → Store → Hp → Prop} (h : Pst F w O H (r.bind f) R E) : Pst F w O H r (fun a _ O1 _ => Pst F w O H (f a O1) R E) E := by
  cases r with
  | ok a O' => exact fun _ _ _ _ => h
  | exc c p O' => exact h
  | bad => exact h
end

section
variable {F : Fx} {w w1 : Wd} {O O1 : Store} {H H1 : Hp} {E : L2.St → XK} {ρ : Env} {σ : L2.St}
/-- an expression within -/
theorem TEv.go {β : Type} {f : Env → Store → Res Val} {k : Val → Store → Res β} {R : β → Wd → Store → Hp → Prop} {Q : VK} (s : SOk F w O H) (r : ROk F w O.length H ρ σ) (h : Pst F w O H ((f ρ O).bind k) R (E σ))
    (q : ∀ v w1 O1 H1 x, SOk F w1 O1 H1 → ROk F w1 O1.length H1 ρ σ → Le w O H w1 O1 H1 → Rp F w1 O1.length H1 v x → Pst F w1 O1 H1 (k v O1) R (E σ) → Q x H1) : TEv F E f σ H Q :=
  ⟨w, ρ, O, s, r, h.bind.imp fun v w' O' H' s' l' z x rx => q v w' O' H' x s' (r.le s l') l' rx z⟩
theorem TEv.mk {f : Env → Store → Res Val} {Q : VK} (s : SOk F w O H) (r : ROk F w O.length H ρ σ) (h : Pst F w O H (f ρ O) (RE F Q) (E σ)) : TEv F E f σ H Q := ⟨w, ρ, O, s, r, h⟩
end

/-! ### tests -/
/-- a bool is told -/
def RB (Q : Bool → Hp → Prop) : Val → Wd → Store → Hp → Prop := fun v _ _ H => ∃ b, v = .bl b ∧ Q b H
def TTv (F : Fx) (E : L2.St → XK) (f : Env → Store → Res Val) : TT := fun σ H Q => ∃ w ρ O, SOk F w O H ∧ ROk F w O.length H ρ σ ∧ Pst F w O H (f ρ O) (RB Q) (E σ)
/-- an expression whose test is its value's truth -/
theorem pt_plain {X : Cx} {F : Fx} {E : L2.St → XK} {f : Env → Store → Res Val} {e : Expr} (h : PE X e (TEv F E f)) (he : ∀ whole, isTrue e X.env whole = (do let v ← whole; standAt e.pos; holding [v] (truthy v))) : PT X e (TTv F E f) :=
  (pt_val h he).imp fun σ H Q ⟨w, ρ, O, s, r, z⟩ => ⟨w, ρ, O, s, r, z.imp fun v w' O' H' s' l' q x rx => by
    obtain ⟨b, e1, q⟩ := q
    subst e1
    exact ⟨b, rx, q⟩⟩

/-! ### values -/
section
variable {F : Fx} {w : Wd} {O : Store} {H : Hp}
theorem liveOf_eq {v : Val} {k : Nat} {l : List Val} (e : liveOf O v = some (k, l)) : v = .own k ∧ O[k]? = some (.lst true l) := by
  unfold liveOf at e
  split at e
  · split at e
    · rename_i q
      cases e
      exact ⟨rfl, q⟩
    · cases e
  · cases e
theorem Rp.listOf (s : SOk F w O H) {v : Val} {x : V} {l : List Val} (r : Rp F w O.length H v x) (e : Mn.listOf O v = some l) : ∃ a xs, x = .ref a ∧ H a = some (.lst xs) ∧ RpL F w O.length H l xs := by
  unfold Mn.listOf at e
  split at e
  · cases e
    obtain ⟨a, xs, e1, _, e2, e3⟩ := r
    exact ⟨a, xs, e1, e2, e3⟩
  · rename_i k
    split at e
    · rename_i b m hk
      cases e
      have c := s.cell k _ hk
      cases b with
      | true =>
        obtain ⟨xs, q1, q2⟩ := c
        exact ⟨_, xs, r.2, q1, q2⟩
      | false =>
        obtain ⟨_, xs, q1, q2⟩ := c
        exact ⟨_, xs, r.2, q1, q2⟩
    · cases e
  · cases e
theorem Rp.seqOf (s : SOk F w O H) {v : Val} {x : V} {l : List Val} (r : Rp F w O.length H v x) (e : Mn.seqOf O v = some l) : ∃ a xs, x = .ref a ∧ (SqL F.K H a xs ∨ SqT F.K H a xs) ∧ RpL F w O.length H l xs := by
  unfold Mn.seqOf at e
  split at e
  · cases e
    obtain ⟨a, xs, e1, e2, e3⟩ := r
    exact ⟨a, xs, e1, .inr e2.sq, e3⟩
  · obtain ⟨a, xs, e1, e2, e3⟩ := r.listOf s e
    exact ⟨a, xs, e1, .inl (.of e2), e3⟩
theorem smallLen_le {n : Nat} (h : smallLen n = true) : n ≤ sizeLine := by
  rw [sizeLine_eq]
  exact Nat.le_of_ble_eq_true h
/-- a new list of related values -/
theorem newL_step (s : SOk F w O H) {l : List Val} {xs : List V} (r : RpL F w O.length H l xs) {kp : Bool} {v : Val} {O' : Store} (e : newL kp l O = some (v, O')) :
    xs.length ≤ sizeLine ∧ ∀ p, H p = none → ∃ w', SOk F w' O' (upd H p (.lst xs)) ∧ Le w O H w' O' (upd H p (.lst xs)) ∧ Rp F w' O'.length (upd H p (.lst xs)) v (.ref p) := by
  unfold newL at e
  split at e
  · rename_i hl
    refine ⟨by rw [← r.length]; exact smallLen_le hl, fun p hp => ?_⟩
    split at e
    · cases e
      obtain ⟨q1, q2⟩ := s.live hp r
      exact ⟨_, q1, q2, by rw [List.length_append]; exact Nat.lt_succ_self _, by simp⟩
    · split at e
      · cases e
        obtain ⟨q1, q2⟩ := s.alloc (.lst xs) (fun _ z => nomatch z) hp
        exact ⟨_, q1, q2, p, xs, rfl, .inr rfl, upd_same, r.le s q2⟩
      · cases e
  · cases e
theorem newT_step (s : SOk F w O H) {l : List Val} {xs : List V} (r : RpL F w O.length H l xs) {v : Val} {O' : Store} (e : newT l O = some (v, O')) :
    xs.length ≤ sizeLine ∧ ∀ p, H p = none → ∃ w', SOk F w' O' (upd H p (.tup xs)) ∧ Le w O H w' O' (upd H p (.tup xs)) ∧ Rp F w' O'.length (upd H p (.tup xs)) v (.ref p) := by
  unfold newT at e
  split at e
  · rename_i hl
    cases e
    refine ⟨by rw [← r.length]; exact smallLen_le hl, fun p hp => ?_⟩
    obtain ⟨q1, q2⟩ := s.alloc (.tup xs) (fun _ z => nomatch z) hp
    exact ⟨_, q1, q2, p, xs, rfl, .inl ⟨.inr rfl, upd_same⟩, r.le s q2⟩
  · cases e
/-! closing -/
mutual
theorem frz_step : ∀ (n : Nat) {F : Fx} {w : Wd} {O : Store} {H : Hp} (s : SOk F w O H) {v v' : Val} {x : V} {O' : Store} (r : Rp F w O.length H v x), frz n v O = some (v', O') →
    ∃ w', SOk F w' O' H ∧ Le w O H w' O' H ∧ Rp F w' O'.length H v' x
  | 0, _, _, _, _, _, _, _, _, _, _, e => by unfold frz at e; cases e
  | n + 1, F, w, O, H, s, v, v', x, O', r, e => by
    cases v with
    | own k =>
      have e2 : (match O[k]? with
        | some (.lst _ l) => match frzL n l O with
          | some (l', O1) => some (Val.lst l', O1.set k (.lst false l'))
          | none => none
        | _ => none) = some (v', O') := by unfold frz at e; exact e
      split at e2
      · rename_i b l hk
        split at e2
        · rename_i l' O1 hf
          cases e2
          have c := s.cell k _ hk
          have rl : ∃ xs, H (w.ad k) = some (.lst xs) ∧ RpL F w O.length H l xs := by
            cases b with
            | true => exact c
            | false => exact c.2
          obtain ⟨xs, h1, h2⟩ := rl
          obtain ⟨w1, s1, l1, r1⟩ := frzL_step n s h2 hf
          have hkl := getElem_lt hk
          have hk1 : k < O1.length := Nat.lt_of_lt_of_le hkl l1.len
          obtain ⟨c1, hc1⟩ : ∃ c1, O1[k]? = some c1 := ⟨_, List.getElem?_eq_getElem hk1⟩
          have c2 := s1.cell k c1 hc1
          have had := (l1.ad k hkl).1
          cases c1 with
          | ins c0 fs =>
            exfalso
            obtain ⟨_, _, vs, q, _⟩ := c2
            rw [had] at q
            rcases q with ⟨q, _⟩ | ⟨q, _⟩
            · rw [h1] at q; cases q
            · rw [h1] at q; unfold SlX.SlO at q; cases q
          | lst b1 m =>
            obtain ⟨q1, q2, q3⟩ := s1.close (l' := l') hc1 (fun xs' hx rx => by
              rw [had, h1] at hx
              cases hx
              exact r1)
            refine ⟨_, q1, l1.trans q2, ?_⟩
            rw [List.length_set, r.2, ← had]
            exact q3
        · cases e2
      · cases e2
    | _ =>
      unfold frz at e
      cases e
      exact ⟨w, s, Le.refl, r⟩
theorem frzL_step : ∀ (n : Nat) {F : Fx} {w : Wd} {O : Store} {H : Hp} (s : SOk F w O H) {v v' : List Val} {x : List V} {O' : Store} (r : RpL F w O.length H v x), frzL n v O = some (v', O') →
    ∃ w', SOk F w' O' H ∧ Le w O H w' O' H ∧ RpL F w' O'.length H v' x
  | 0, _, _, _, _, _, _, _, _, _, _, e => by unfold frzL at e; cases e
  | n + 1, F, w, O, H, s, [], v', x, O', r, e => by
    unfold frzL at e
    cases e
    exact ⟨w, s, Le.refl, r⟩
  | n + 1, F, w, O, H, s, v :: t, v', x, O', r, e => by
    unfold frzL at e
    split at e
    · rename_i v1 O1 h1
      split at e
      · rename_i t1 O2 h2
        cases e
        obtain ⟨y, ys, e1, r1, r2⟩ := r
        obtain ⟨w1, s1, l1, q1⟩ := frz_step n s r1 h1
        obtain ⟨w2, s2, l2, q2⟩ := frzL_step n s1 (r2.le s l1) h2
        exact ⟨w2, s2, l1.trans l2, y, ys, e1, q1.le s1 l2, q2⟩
      · cases e
    · cases e
end
theorem close_step (s : SOk F w O H) {v v' : Val} {x : V} {O' : Store} (r : Rp F w O.length H v x) (e : Mn.close v O = some (v', O')) :
    ∃ w', SOk F w' O' H ∧ Le w O H w' O' H ∧ Rp F w' O'.length H v' x := by
  cases v with
  | own k =>
    have e2 : (match O[k]? with
      | some (.lst _ l) => match anyOwn l with
        | false => some (Val.lst l, O.set k (.lst false l))
        | true => frz FUEL (.own k) O
      | _ => none) = some (v', O') := e
    split at e2
    · rename_i b l hk
      split at e2
      · cases e2
        obtain ⟨q1, q2, q3⟩ := s.close hk (fun xs _ q => q)
        refine ⟨_, q1, q2, ?_⟩
        rw [List.length_set, r.2]
        exact q3
      · exact frz_step _ s r e2
    · cases e2
  | _ =>
    unfold Mn.close at e
    cases e
    exact ⟨w, s, Le.refl, r⟩
theorem emb_step (s : SOk F w O H) {fz : Bool} {v v' : Val} {x : V} {O' : Store} (r : Rp F w O.length H v x) (e : emb fz v O = some (v', O')) :
    ∃ w', SOk F w' O' H ∧ Le w O H w' O' H ∧ Rp F w' O'.length H v' x := by
  cases fz with
  | true => exact close_step s r e
  | false =>
    have e2 : some (v, O) = some (v', O') := e
    cases e2
    exact ⟨w, s, Le.refl, r⟩
/-! data -/
mutual
theorem data_dp {K : PySem.W.Frag} (hK : F.K = K) : ∀ (v : Val) (x : V) (d : PyData), Rp F w O.length H v x → v.data O = some d → Dp K H x d
  | .non, x, d, r, e => by
    have e' : some PyData.none = some d := e
    cases e'
    rw [show x = .non from r]; exact .non
  | .bl b, x, d, r, e => by
    have e' : some (PyData.bool b) = some d := e
    cases e'
    rw [show x = .bl b from r]; exact .bl b
  | .int i, x, d, r, e => by
    have e' : some (PyData.int i) = some d := e
    cases e'
    rw [show x = .int i from r]; exact .int i
  | .str z, x, d, r, e => by
    have e' : some (PyData.str z) = some d := e
    cases e'
    rw [show x = .str z from r]; exact .str z
  | .tup l, x, d, r, e => by
    unfold Val.data at e
    split at e
    · rename_i ds h
      cases e
      obtain ⟨a, xs, e1, e2, e3⟩ := r
      subst e1 hK
      exact .tup e2.sq (data_dpL rfl l xs ds e3 h)
    · cases e
  | .lst l, x, d, r, e => by
    unfold Val.data at e
    split at e
    · rename_i ds h
      cases e
      obtain ⟨a, xs, e1, _, e2, e3⟩ := r
      subst e1
      exact .lst (.of e2) (data_dpL hK l xs ds e3 h)
    · cases e
  | .own _, _, _, _, e => by cases (show none = some _ from e)
  | .obj _ _, _, _, _, e => by cases (show none = some _ from e)
  | .fn _, _, _, _, e => by cases (show none = some _ from e)
  | .exn _ _, _, _, _, e => by cases (show none = some _ from e)
  | .edic, _, _, _, e => by cases (show none = some _ from e)
  | .scr _, _, _, _, e => by cases (show none = some _ from e)
theorem data_dpL {K : PySem.W.Frag} (hK : F.K = K) : ∀ (l : List Val) (xs : List V) (ds : List PyData), RpL F w O.length H l xs → dataAll O l = some ds → DpAll K H xs ds
  | [], xs, ds, r, e => by
    have e' : some ([] : List PyData) = some ds := e
    cases e'
    rw [show xs = [] from r]; exact .nil
  | v :: t, xs, ds, r, e => by
    unfold dataAll at e
    split at e
    · rename_i d h1
      split at e
      · rename_i ds' h2
        cases e
        obtain ⟨x, ys, e1, r1, r2⟩ := r
        subst e1
        exact .cons (data_dp hK v x d r1 h1) (data_dpL hK t ys ds' r2 h2)
      · cases e
    · cases e
end
theorem dataOf_dp (s : SOk F w O H) {v : Val} {x : V} {d : PyData} (r : Rp F w O.length H v x) (e : dataOf O v = some d) : Dp F.K H x d := by
  unfold dataOf at e
  split at e
  · split at e
    · rename_i l h
      obtain ⟨a, xs, e1, e2, e3⟩ := r.listOf s h
      unfold Val.data at e
      split at e
      · rename_i ds hd
        cases e
        subst e1
        exact .lst (.of e2) (data_dpL rfl l xs ds e3 hd)
      · cases e
    · cases e
  · exact data_dp rfl v x d r e
end
end Mn
end

section
set_option Elab.async false
set_option linter.all false
set_option maxRecDepth 100000
set_option maxHeartbeats 2000000
/-! M2b: two-place operators. -/
namespace Mn
open PySem PySem.Spec PyProof.Rows L2

def rOp2 (F : Fx) (g : Val → Val → Store → Option (Val × Store)) : R2 := fun x y H Q => ∃ w O a b v O', SOk F w O H ∧ Rp F w O.length H a x ∧ Rp F w O.length H b y ∧ g a b O = some (v, O') ∧
  ∀ w' H' x', SOk F w' O' H' → Le w O H w' O' H' → Rp F w' O'.length H' v x' → Q x' H'

section
variable {X : Cx} {F : Fx}
/-! tuple * 1 -/
theorem tuple_mul1 (l : Addr) (items : Array Value) (n : Nat) (dd : Option Addr) (sl : Array (Option Value)) (u : Tok) :
    Meets (Builtin.«tuple.__mul__» ⟨[.ref l, .int 1 u], []⟩) (fun _ R s => s.heap.get? l = some { cls := .type "tuple", dict := dd, data := .seq items n, slots := sl } ∧ R (.ok (.ret (Value.ref l))) s) :=
  .of_wp fun prog w A R s h => by
    obtain ⟨hp, g, d, tk, os⟩ := s
    obtain ⟨hl, h⟩ := h
    have f1 := AutoSeq1.idx_int
    wp_walk using wpAny_loadPart' hl
    repeat (first
      | (refine wpAny_ite_true (by simp) ?_; wp_walk using wpAny_loadPart' hl)
      | (refine wpAny_ite_false (by decide) ?_; wp_walk using wpAny_loadPart' hl))
    exact ⟨_, rfl, h⟩

theorem op_mulT1 : OpR X (binaryOp .Mult) (fun x y H Q => ∃ l xs, x = .ref l ∧ y = .int 1 ∧ SqT X.K H l xs ∧ Q (.ref l) H) := by
  intro pins s σ H x y v u Q I rx ry h
  obtain ⟨l, xs, rfl, rfl, hT, q⟩ := h
  cases rx
  obtain ⟨t, rfl⟩ := ry
  obtain ⟨its, r, ⟨⟨cls, dd, data, sl⟩, ho, hc, n, hd⟩, hs⟩ := I.tuple hT
  simp only at hc hd
  subst hc hd
  refine wpAny_binaryOp_repeat_ref (T := "tuple") (U := "int") (by decide) ⟨_, ho, rfl⟩ (fun s' => typeIs_int s' 1 t) noFill_tuple_mul F.fills_int_mul F.slot_int_rmul repeat_tuple F.slot_int_index.lookup
    (call_meets F.slot_int_rmul (typeIs_int s 1 t) F.entry_int_rmul (F.args_int_rmul_2 _ _) (int_rmul_tuple 1 t l its.toArray n dd sl)
      ⟨ho, rfl, ⟨_, ho, rfl⟩, call_meets F.slot_tuple_mul ⟨_, ho, rfl⟩ F.entry_tuple_mul (F.args_tuple_mul_2 _ _) (tuple_mul1 l its.toArray n dd sl t) ⟨ho, ?_⟩⟩)
  exact ⟨.ref l, H, I, rfl, q⟩
theorem mulOk_ok {i j : Int} (h : mulOk i j = true) : IntMulOk i j := by
  have h' : i.natAbs.log2 + j.natAbs.log2 < 100000000 := by
    unfold mulOk at h
    rw [Nat.blt_eq] at h
    exact h
  have b : ∀ k : Int, Builtin.Int.intBits k ≤ k.natAbs.log2 + 1 := fun k => PyProof.Rows.intBits_le Nat.lt_log2_self
  exact IntMulOk.of_le (b i) (b j) (by omega)
theorem op_mulI : OpR X (binaryOp .Mult) (rI IntMulOk fun i j => .int (i * j)) := opI fun _ _ _ _ _ _ _ hc q => mul_int q hc
theorem op_fdivI : OpR X (binaryOp .FloorDiv) (rI (fun i j => j ≠ 0 ∧ Builtin.divisionGoesByPylong i j = false) fun i j => .int (i.fdiv j)) := opI fun _ _ _ _ _ _ _ hc q => floordiv_int hc.1 q (.inl hc.2)
theorem rngOk_le {i : Int} (h : rngOk i = true) : -(2 ^ 62) ≤ i ∧ i < 2 ^ 62 := by
  unfold rngOk at h
  simp only [Bool.and_eq_true, decide_eq_true_eq] at h
  omega
/-- the names of the operators -/
def Bop.op : Bop → Operator
  | .add => .Add | .sub => .Sub | .mul => .Mult | .fdiv => .FloorDiv | .mod => .Mod | .pow => .Pow

theorem binV_add_list {kp : Bool} {a b v : Val} {O O' : Store} (e : binV kp .add a b O = some (v, O')) : (∃ i j, a = .int i ∧ b = .int j ∧ v = .int (i + j) ∧ O' = O) ∨
    (∃ i j, a = .str i ∧ b = .str j ∧ smallLen (i.length + j.length) = true ∧ v = .str (i ++ j) ∧ O' = O) ∨ (∃ x y, a = .tup x ∧ b = .tup y ∧ newT (x ++ y) O = some (v, O')) ∨
    ∃ x y, listOf O a = some x ∧ listOf O b = some y ∧ newL kp (x ++ y) O = some (v, O') := by
  unfold binV at e
  split at e
  · cases e; exact .inl ⟨_, _, rfl, rfl, rfl, rfl⟩
  all_goals first | (rename_i h; cases h; done) | skip
  all_goals first | contradiction | skip
  · split at e
    · rename_i h
      cases e
      exact .inr (.inl ⟨_, _, rfl, rfl, h, rfl, rfl⟩)
    · cases e
  · exact .inr (.inr (.inl ⟨_, _, rfl, rfl, e⟩))
  · split at e
    · rename_i x y h1 h2
      exact .inr (.inr (.inr ⟨x, y, h1, h2, e⟩))
    · cases e

theorem binV_mul_list {kp : Bool} {a b v : Val} {O O' : Store} (e : binV kp .mul a b O = some (v, O')) : (∃ i j, a = .int i ∧ b = .int j ∧ mulOk i j = true ∧ v = .int (i * j) ∧ O' = O) ∨
    (∃ x n, a = .tup x ∧ b = .int n ∧ ((n = 1 ∧ v = .tup x ∧ O' = O) ∨ (x.length ≤ 1000 ∧ 0 < x.length ∧ 2 ≤ n ∧ n ≤ 1000 ∧ newT (repL n x) O = some (v, O')))) ∨
    ∃ x n, listOf O a = some x ∧ b = .int n ∧ rngOk n = true ∧ smallLen (x.length * n.toNat) = true ∧ newL kp (repL n x) O = some (v, O') := by
  unfold binV at e
  split at e
  all_goals first | (rename_i h; cases h; done) | skip
  all_goals first | contradiction | skip
  · split at e
    · rename_i h
      cases e
      exact .inl ⟨_, _, rfl, rfl, h, rfl, rfl⟩
    · cases e
  · rename_i x n
    split at e
    · rename_i h
      cases e
      exact .inr (.inl ⟨_, _, rfl, rfl, .inl ⟨of_decide_eq_true h, rfl, rfl⟩⟩)
    · split at e
      · rename_i h
        simp only [Bool.and_eq_true, decide_eq_true_eq, Nat.blt_eq] at h
        exact .inr (.inl ⟨_, _, rfl, rfl, .inr ⟨Nat.le_of_ble_eq_true h.1.1.1, h.1.1.2, h.1.2, h.2, e⟩⟩)
      · cases e
  · split at e
    · rename_i x h1
      split at e
      · rename_i h2
        simp only [Bool.and_eq_true] at h2
        exact .inr (.inr ⟨x, _, h1, rfl, h2.1, h2.2, e⟩)
      · cases e
    · cases e
theorem binV_int {kp : Bool} {op : Bop} {a b v : Val} {O O' : Store} (h : op = .sub ∨ op = .fdiv ∨ op = .mod ∨ op = .pow) (e : binV kp op a b O = some (v, O')) :
    ∃ i j, a = .int i ∧ b = .int j ∧ O' = O ∧ ((op = .sub ∧ v = .int (i - j)) ∨ (op = .fdiv ∧ j ≠ 0 ∧ Builtin.divisionGoesByPylong i j = false ∧ v = .int (i.fdiv j)) ∨ (op = .mod ∧ j ≠ 0 ∧ v = .int (i.fmod j)) ∨ (op = .pow ∧ powOk i j = true ∧ v = .int (i ^ j.toNat))) := by
  unfold binV at e
  split at e
  all_goals first | (rcases h with h | h | h | h <;> cases h; done) | skip
  all_goals first | contradiction | skip
  · cases e; exact ⟨_, _, rfl, rfl, rfl, .inl ⟨rfl, rfl⟩⟩
  · split at e
    · cases e
    · rename_i h
      cases e
      simp only [Bool.or_eq_false_iff, decide_eq_false_iff_not] at h
      exact ⟨_, _, rfl, rfl, rfl, .inr (.inl ⟨rfl, h.1, h.2, rfl⟩)⟩
  · split at e
    · cases e
    · rename_i h
      cases e
      exact ⟨_, _, rfl, rfl, rfl, .inr (.inr (.inl ⟨rfl, of_decide_eq_false h, rfl⟩))⟩
  · split at e
    · rename_i h
      cases e
      exact ⟨_, _, rfl, rfl, rfl, .inr (.inr (.inr ⟨rfl, h, rfl⟩))⟩
    · cases e
theorem op_add (hK : X.K = F.K) {kp : Bool} : OpR X (binaryOp .Add) (rOp2 F (binV kp .add)) := by
  intro pins s σ H x y v u Q I rx ry ⟨w, O, a, b, r, O', sk, ra, rb, e, q⟩
  rcases binV_add_list e with ⟨i, j, rfl, rfl, rfl, rfl⟩ | ⟨i, j, rfl, rfl, hl, rfl, rfl⟩ | ⟨l, m, rfl, rfl, e9⟩ | ⟨l, m, h1, h2, e9⟩
  · exact L2.op_add pins s σ H x y v u Q I rx ry ⟨i, j, ra, rb, q w H _ sk Le.refl rfl⟩
  · exact op_add_str pins s σ H x y v u Q I rx ry ⟨i, j, ra, rb, smallLen_le hl, q w H _ sk Le.refl rfl⟩
  · obtain ⟨p1, xs, e1, t1, r1⟩ := ra
    obtain ⟨p2, ys, e2, t2, r2⟩ := rb
    obtain ⟨hz, st⟩ := newT_step sk (r1.append r2) e9
    have hO : O' = O ∧ r = .tup (l ++ m) := by
      unfold newT at e9
      split at e9 <;> cases e9
      exact ⟨rfl, rfl⟩
    obtain ⟨hO, hr⟩ := hO
    subst hO hr
    refine op_catA pins s σ H x y v u Q I rx ry ⟨p1, p2, xs, ys, e1, e2, by rw [hK]; exact t1.sq, by rw [hK]; exact t2.sq, by rw [List.length_append] at hz; exact hz, fun h => ?_, fun _ h => ?_, fun _ _ p hp => ?_⟩
    · refine q w H _ sk Le.refl ⟨p2, ys, rfl, t2, ?_⟩
      have : l = [] := List.eq_nil_of_length_eq_zero (by rw [r1.length, h]; rfl)
      rw [this, List.nil_append]
      exact r2
    · refine q w H _ sk Le.refl ⟨p1, xs, rfl, t1, ?_⟩
      have : m = [] := List.eq_nil_of_length_eq_zero (by rw [r2.length, h]; rfl)
      rw [this, List.append_nil]
      exact r1
    · obtain ⟨w', s', l', r'⟩ := st p hp
      exact q w' _ _ s' l' r'
  · obtain ⟨p1, xs, e1, t1, r1⟩ := ra.listOf sk h1
    obtain ⟨p2, ys, e2, t2, r2⟩ := rb.listOf sk h2
    obtain ⟨hz, st⟩ := newL_step sk (r1.append r2) e9
    refine op_cat pins s σ H x y v u Q I rx ry ⟨p1, p2, xs, ys, e1, e2, t1, t2, by rw [List.length_append] at hz; exact hz, fun p hp => ?_⟩
    obtain ⟨w', s', l', r'⟩ := st p hp
    exact q w' _ _ s' l' r'
theorem op_mulV (hK : X.K = F.K) {kp : Bool} : OpR X (binaryOp .Mult) (rOp2 F (binV kp .mul)) := by
  intro pins s σ H x y v u Q I rx ry ⟨w, O, a, b, r, O', sk, ra, rb, e, q⟩
  rcases binV_mul_list e with ⟨i, j, rfl, rfl, hm, rfl, rfl⟩ | ⟨l, n, rfl, rfl, ⟨rfl, rfl, rfl⟩ | ⟨z1, z2, z3, z4, e9⟩⟩ | ⟨l, n, h1, rfl, h2, h3, e9⟩
  · exact op_mulI pins s σ H x y v u Q I rx ry ⟨i, j, ra, rb, mulOk_ok hm, q w H _ sk Le.refl rfl⟩
  · obtain ⟨p1, xs, e1, t1, r1⟩ := ra
    exact op_mulT1 pins s σ H x y v u Q I rx ry ⟨p1, xs, e1, rb, by rw [hK]; exact t1.sq, q w H _ sk Le.refl ⟨p1, xs, rfl, t1, r1⟩⟩
  · obtain ⟨p1, xs, e1, t1, r1⟩ := ra
    obtain ⟨_, st⟩ := newT_step sk (r1.rep n.toNat) e9
    have hl := r1.length
    refine op_repT pins s σ H x y v u Q I rx ry ⟨p1, n, xs, e1, rb, by rw [hK]; exact t1.sq, fun h => by rw [h] at hl; simp at hl; rw [hl] at z2; simp at z2, z3, z4, by omega, fun p hp => ?_⟩
    obtain ⟨w', s', l', r'⟩ := st p hp
    exact q w' _ _ s' l' r'
  · obtain ⟨p1, xs, e1, t1, r1⟩ := ra.listOf sk h1
    obtain ⟨_, st⟩ := newL_step sk (r1.rep n.toNat) e9
    have hb := rngOk_le h2
    have hl := r1.length
    refine op_rep pins s σ H x y v u Q I rx ry ⟨p1, n, xs, e1, rb, t1, by omega, by omega, by rw [← hl]; exact smallLen_le h3, fun p hp => ?_⟩
    obtain ⟨w', s', l', r'⟩ := st p hp
    exact q w' _ _ s' l' r'
theorem op_bin (hK : X.K = F.K) {kp : Bool} (op : Bop) : OpR X (binaryOp op.op) (rOp2 F (binV kp op)) := by
  have int : ∀ op : Bop, (op = .sub ∨ op = .fdiv ∨ op = .mod ∨ op = .pow) → OpR X (binaryOp op.op) (rOp2 F (binV kp op)) := by
    intro op hop pins s σ H x y v u Q I rx ry ⟨w, O, a, b, r, O', sk, ra, rb, e, q⟩
    obtain ⟨i, j, rfl, rfl, rfl, h⟩ := binV_int hop e
    rcases h with ⟨rfl, rfl⟩ | ⟨rfl, h1, h2, rfl⟩ | ⟨rfl, h1, rfl⟩ | ⟨rfl, h1, rfl⟩
    · exact op_sub pins s σ H x y v u Q I rx ry ⟨i, j, ra, rb, q w H _ sk Le.refl rfl⟩
    · exact op_fdivI pins s σ H x y v u Q I rx ry ⟨i, j, ra, rb, ⟨h1, h2⟩, q w H _ sk Le.refl rfl⟩
    · exact op_modN pins s σ H x y v u Q I rx ry ⟨i, j, ra, rb, h1, q w H _ sk Le.refl rfl⟩
    · refine op_pow pins s σ H x y v u Q I rx ry ⟨i, j, ra, rb, ?_, q w H _ sk Le.refl rfl⟩
      unfold powOk at h1
      simp only [Bool.and_eq_true, decide_eq_true_eq, Nat.blt_eq] at h1
      exact ⟨h1.1.1, h1.1.2, by have := h1.2; omega⟩
  cases op with
  | add => exact op_add hK
  | sub => exact int _ (.inl rfl)
  | mul => exact op_mulV hK
  | fdiv => exact int _ (.inr (.inl rfl))
  | mod => exact int _ (.inr (.inr (.inl rfl)))
  | pow => exact int _ (.inr (.inr (.inr rfl)))
end
end Mn
end

section
set_option Elab.async false
set_option linter.all false
set_option maxRecDepth 100000
set_option maxHeartbeats 2000000
/-! M2c: comparisons, subscripts, slices, built-in functions. -/
namespace Mn
open PySem PySem.Spec PyProof.Rows L2

def Cop.op : Cop → CmpOp
  | .eq => .Eq | .ne => .NotEq | .lt => .Lt | .le => .LtE | .gt => .Gt | .ge => .GtE | .isN => .Is | .notN => .IsNot | .mem => .In | .nmem => .NotIn
def rOpB (F : Fx) (g : Val → Val → Store → Option Bool) : R2 := fun x y H Q => ∃ w O a b r, SOk F w O H ∧ Rp F w O.length H a x ∧ Rp F w O.length H b y ∧ g a b O = some r ∧ Q (.bl r) H
section
variable {X : Cx} {F : Fx}
theorem dp_list_tup {K : PySem.W.Frag} {H : Hp} {p : Addr} {xs : List V} {ds : List PyData} (h : SqL K H p xs ∨ SqT K H p xs) (hd : DpAll K H xs ds) : Dp K H (.ref p) (.list ds) ∨ Dp K H (.ref p) (.tuple ds) := by
  rcases h with h | h
  · exact .inl (.lst h hd)
  · exact .inr (.tup h hd)
theorem shaped_list {ds : List PyData} (h : SeqAt.shaped (.list ds) = true) : PyData.canLayAll0 ds = true := SeqAt.canLay_of_shaped h
theorem op_mem (hK : X.K = F.K) (hu : X.A.units + 65 < cLine) (neg : Bool) : OpR X (compareOp (if neg then .NotIn else .In)) (rOpB F fun a b O => match cmpV.memV O a b with | some r => some (if neg then !r else r) | none => none) := by
  intro pins s σ H x y v u Q I rx ry ⟨w, O, a, b, r, sk, ra, rb, e, q⟩
  dsimp only at e
  split at e
  · rename_i r0 hm
    unfold cmpV.memV at hm
    split at hm
    · rename_i l hl
      split at hm
      · rename_i d ds h1 h2
        split at hm
        · rename_i hs
          cases hm
          simp only [Bool.and_eq_true] at hs
          obtain ⟨sd, se⟩ := hs
          obtain ⟨p, xs, e1, e2, e3⟩ := rb.seqOf sk hl
          have da := dataOf_dp sk ra h1
          have db := data_dpL rfl l xs ds e3 h2
          rw [← hK] at da db e2
          subst e1
          obtain ⟨as, r1⟩ := Dp.reads I d x v da rx
          have sd' : SeqAt.shaped d = true := sd
          have se' : SeqAt.shaped (.list ds) = true := se
          rcases e2 with e2 | e2
          · obtain ⟨bs, r2⟩ := Dp.reads I (.list ds) (.ref p) u (.lst e2 db) ry
            cases neg with
            | true => cases e; exact SeqAt.notIn_list_reads r2 r1 (shaped_list se') (SeqAt.canLay_of_shaped sd') (room_in_shaped sd' hu) ⟨.bl _, H, I, rfl, q⟩
            | false => cases e; exact SeqAt.in_list_reads r2 r1 (shaped_list se') (SeqAt.canLay_of_shaped sd') (room_in_shaped sd' hu) ⟨.bl _, H, I, rfl, q⟩
          · obtain ⟨bs, r2⟩ := Dp.reads I (.tuple ds) (.ref p) u (.tup e2 db) ry
            cases neg with
            | true => cases e; exact SeqAt.notIn_tuple_reads r2 r1 (shaped_list se') (SeqAt.canLay_of_shaped sd') (room_in_shaped sd' hu) ⟨.bl _, H, I, rfl, q⟩
            | false => cases e; exact SeqAt.in_tuple_reads r2 r1 (shaped_list se') (SeqAt.canLay_of_shaped sd') (room_in_shaped sd' hu) ⟨.bl _, H, I, rfl, q⟩
        · cases hm
      · cases hm
    · cases hm
  · cases e
theorem eqV_dp {w : Wd} {O : Store} {H : Hp} {a b : Val} {x y : V} {r : Bool} (sk : SOk F w O H) (ra : Rp F w O.length H a x) (rb : Rp F w O.length H b y) (e : Mn.eqV O a b = some r) :
    ∃ d d', Dp F.K H x d ∧ Dp F.K H y d' ∧ SeqAt.shaped d = true ∧ SeqAt.shaped d' = true ∧ r = PyData.eqv d d' := by
  unfold Mn.eqV at e
  split at e
  · rename_i d d' h1 h2
    split at e
    · rename_i hs
      cases e
      simp only [Bool.and_eq_true] at hs
      exact ⟨d, d', dataOf_dp sk ra h1, dataOf_dp sk rb h2, hs.1, hs.2, rfl⟩
    · cases e
  · cases e
def isNonV : Val → Bool
  | .non => true
  | _ => false
theorem Rp.isNon {w : Wd} {n : Nat} {H : Hp} {a : Val} {x : V} (r : Rp F w n H a x) : decide (x = .non) = isNonV a := by
  cases a with
  | non => rw [show x = .non from r]; rfl
  | bl b => rw [show x = .bl b from r]; rfl
  | int b => rw [show x = .int b from r]; rfl
  | str b => rw [show x = .str b from r]; rfl
  | tup l => obtain ⟨a, xs, e, _⟩ := r; rw [e]; rfl
  | lst l => obtain ⟨a, xs, e, _⟩ := r; rw [e]; rfl
  | scr l => obtain ⟨a, xs, e, _⟩ := r; rw [e]; rfl
  | own k => rw [r.2]; rfl
  | obj c l => obtain ⟨a, dx, vs, xs, e, _⟩ := r; rw [e]; rfl
  | fn i => rw [r.2]; rfl
  | exn c p => exact (show False from r).elim
  | edic => obtain ⟨a, e, _⟩ := r; rw [e]; rfl
theorem cmpV_ints {op : Cop} (hop : op = .lt ∨ op = .le ∨ op = .gt ∨ op = .ge) {a b : Val} {O : Store} {r : Bool} (e : cmpV op a b O = some r) :
    ∃ i j, a = .int i ∧ b = .int j ∧ ((op = .lt ∧ r = decide (i < j)) ∨ (op = .le ∧ r = decide (i ≤ j)) ∨ (op = .gt ∧ r = decide (j < i)) ∨ (op = .ge ∧ r = decide (j ≤ i))) := by
  rcases hop with rfl | rfl | rfl | rfl
  all_goals
    unfold cmpV at e
    dsimp only at e
    split at e
    · cases e
      first
        | exact ⟨_, _, rfl, rfl, .inl ⟨rfl, rfl⟩⟩
        | exact ⟨_, _, rfl, rfl, .inr (.inl ⟨rfl, rfl⟩)⟩
        | exact ⟨_, _, rfl, rfl, .inr (.inr (.inl ⟨rfl, rfl⟩))⟩
        | exact ⟨_, _, rfl, rfl, .inr (.inr (.inr ⟨rfl, rfl⟩))⟩
    · cases e
theorem cmpV_isN {a b : Val} {O : Store} {r : Bool} (e : cmpV .isN a b O = some r) : b = .non ∧ r = isNonV a := by
  unfold cmpV at e
  dsimp only at e
  split at e <;> cases e
  · exact ⟨rfl, rfl⟩
  · exact ⟨rfl, rfl⟩
  · refine ⟨rfl, ?_⟩
    cases a <;> first | rfl | simp_all
theorem cmpV_notN {a b : Val} {O : Store} {r : Bool} (e : cmpV .notN a b O = some r) : b = .non ∧ r = !isNonV a := by
  unfold cmpV at e
  dsimp only at e
  split at e <;> cases e
  · exact ⟨rfl, rfl⟩
  · refine ⟨rfl, ?_⟩
    cases a <;> first | rfl | simp_all
theorem op_cmp (hK : X.K = F.K) (hu : X.A.units + 65 < cLine) (op : Cop) : OpR X (compareOp op.op) (rOpB F (cmpV op)) := by
  have hInt : ∀ op : Cop, (op = .lt ∨ op = .le ∨ op = .gt ∨ op = .ge) → OpR X (compareOp op.op) (rOpB F (cmpV op)) := by
    intro op hop pins s σ H x y v u Q I rx ry ⟨w, O, a, b, r, sk, ra, rb, e, q⟩
    obtain ⟨i, j, rfl, rfl, h⟩ := cmpV_ints hop e
    rcases h with ⟨rfl, rfl⟩ | ⟨rfl, rfl⟩ | ⟨rfl, rfl⟩ | ⟨rfl, rfl⟩
    · exact op_lt pins s σ H x y v u Q I rx ry ⟨i, j, ra, rb, q⟩
    · exact op_le pins s σ H x y v u Q I rx ry ⟨i, j, ra, rb, q⟩
    · exact op_gt pins s σ H x y v u Q I rx ry ⟨i, j, ra, rb, q⟩
    · exact op_ge pins s σ H x y v u Q I rx ry ⟨i, j, ra, rb, q⟩
  cases op with
  | lt => exact hInt _ (.inl rfl)
  | le => exact hInt _ (.inr (.inl rfl))
  | gt => exact hInt _ (.inr (.inr (.inl rfl)))
  | ge => exact hInt _ (.inr (.inr (.inr rfl)))
  | eq =>
    intro pins s σ H x y v u Q I rx ry ⟨w, O, a, b, r, sk, ra, rb, e, q⟩
    obtain ⟨d, d', h1, h2, h3, h4, rfl⟩ := eqV_dp sk ra rb (show Mn.eqV O a b = some r from e)
    rw [← hK] at h1 h2
    exact op_eqD (by omega) pins s σ H x y v u Q I rx ry ⟨d, d', h1, h2, h3, h4, q⟩
  | ne =>
    intro pins s σ H x y v u Q I rx ry ⟨w, O, a, b, r, sk, ra, rb, e, q⟩
    have e : (match Mn.eqV O a b with | some r => some (!r) | none => none) = some r := e
    split at e
    · rename_i r0 h0
      cases e
      obtain ⟨d, d', h1, h2, h3, h4, rfl⟩ := eqV_dp sk ra rb h0
      rw [← hK] at h1 h2
      exact op_neD (by omega) pins s σ H x y v u Q I rx ry ⟨d, d', h1, h2, h3, h4, q⟩
    · cases e
  | isN =>
    intro pins s σ H x y v u Q I rx ry ⟨w, O, a, b, r, sk, ra, rb, e, q⟩
    obtain ⟨rfl, e2⟩ := cmpV_isN e
    refine L2.op_isN pins s σ H x y v u Q I rx ry ⟨rb, ?_⟩
    rw [ra.isNon, ← e2]
    exact q
  | notN =>
    intro pins s σ H x y v u Q I rx ry ⟨w, O, a, b, r, sk, ra, rb, e, q⟩
    obtain ⟨rfl, e2⟩ := cmpV_notN e
    refine L2.op_notN pins s σ H x y v u Q I rx ry ⟨rb, ?_⟩
    rw [ra.isNon, ← e2]
    exact q
  | mem =>
    intro pins s σ H x y v u Q I rx ry ⟨w, O, a, b, r, sk, ra, rb, e, q⟩
    refine op_mem hK hu false pins s σ H x y v u Q I rx ry ⟨w, O, a, b, r, sk, ra, rb, ?_, q⟩
    show (match cmpV.memV O a b with | some r => some (if false = true then !r else r) | none => none) = some r
    rw [show cmpV.memV O a b = some r from e]
    rfl
  | nmem =>
    intro pins s σ H x y v u Q I rx ry ⟨w, O, a, b, r, sk, ra, rb, e, q⟩
    exact op_mem hK hu true pins s σ H x y v u Q I rx ry ⟨w, O, a, b, r, sk, ra, rb, e, q⟩
end
end Mn
end

section
set_option Elab.async false
set_option linter.all false
set_option maxRecDepth 100000
set_option maxHeartbeats 2000000
/-! M2d: subscripts, slices, built-in functions, isinstance. -/
namespace Mn
open PySem PySem.Spec PyProof.Rows L2

/-! ### subscripts -/
def rIxV (F : Fx) : R2 := fun x y H Q => ∃ w O a i v, SOk F w O H ∧ Rp F w O.length H a x ∧ Rp F w O.length H i y ∧ idxV a i O = some v ∧ ∀ x', Rp F w O.length H v x' → Q x' H
section
variable {X : Cx} {F : Fx}
theorem RpL.atI {w : Wd} {n : Nat} {H : Hp} {l : List Val} {xs : List V} {i : Int} {v : Val} (r : RpL F w n H l xs) (e : L2.atI l i = some v) : ∃ x, L2.atI xs i = some x ∧ Rp F w n H v x := by
  unfold L2.atI at e ⊢
  rw [← r.length]
  cases h : ixN l.length i with
  | none => rw [h] at e; cases e
  | some j =>
    rw [h] at e
    exact r.get (i := j) e
theorem idxV_cases {a i v : Val} {O : Store} (e : idxV a i O = some v) : ∃ n, i = .int n ∧ ((∃ s c, a = .str s ∧ smallLen s.length = true ∧ L2.atI s.cps.toList n = some c ∧ v = .str ⟨#[c]⟩) ∨
    (∃ l, a = .scr l ∧ L2.atI l n = some v) ∨ ∃ l, seqOf O a = some l ∧ L2.atI l n = some v) := by
  unfold idxV at e
  split at e
  · refine ⟨_, rfl, ?_⟩
    split at e
    · split at e
      · rename_i h
        split at e
        · rename_i c hc
          cases e
          exact .inl ⟨_, c, rfl, h, hc, rfl⟩
        · cases e
      · cases e
    · exact .inr (.inl ⟨_, rfl, e⟩)
    · split at e
      · rename_i l h
        exact .inr (.inr ⟨l, h, e⟩)
      · cases e
  · cases e
theorem ix_val (hK : X.K = F.K) : IxR X (rIxV F) := by
  intro value slice pins s σ H x y v u Q I rx ry ⟨w, O, a, i, r, sk, ra, ri, e, q⟩ hs
  refine ix_seq value slice pins s σ H x y v u Q I rx ry ?_ hs
  obtain ⟨n, rfl, h⟩ := idxV_cases e
  rcases h with ⟨z, c, rfl, hl, hc, rfl⟩ | ⟨l, rfl, h⟩ | ⟨l, hl, h⟩
  · exact .inr (.inr ⟨z, n, c, ra, ri, smallLen_le hl, hc, q _ rfl⟩)
  · obtain ⟨p, xs, e1, e2, e3⟩ := ra
    obtain ⟨x', h1, h2⟩ := e3.atI h
    exact .inl ⟨p, xs, n, x', e1, ri, by rw [hK]; exact e2.elim (fun q => .inl q.2) .inr, h1, q x' h2⟩
  · obtain ⟨p, xs, e1, e2, e3⟩ := ra.seqOf sk hl
    obtain ⟨x', h1, h2⟩ := e3.atI h
    rw [← hK] at e2
    rcases e2 with e2 | e2
    · exact .inl ⟨p, xs, n, x', e1, ri, e2, h1, q x' h2⟩
    · exact .inr (.inl ⟨p, xs, n, x', e1, ri, e2, h1, q x' h2⟩)
/-- o[i] that is stored to again: a list -/
def rGetV (F : Fx) : R2 := fun x y H Q => ∃ w O a i v, SOk F w O H ∧ Rp F w O.length H a x ∧ Rp F w O.length H i y ∧ idxL a i O = some v ∧ ∀ x', Rp F w O.length H v x' → Q x' H
theorem get_val : PGet X (rGetV F) := by
  intro pins s σ H x y v u Q I rx ry ⟨w, O, a, i, r, sk, ra, ri, e, q⟩
  unfold idxL at e
  split at e
  · rename_i l n hl
    obtain ⟨p, xs, rfl, e2, e3⟩ := ra.listOf sk hl
    obtain ⟨x', h1, h2⟩ := e3.atI e
    cases rx
    rw [show y = .int n from ri] at ry
    obtain ⟨t, rfl⟩ := ry
    obtain ⟨its, r, pl, hz⟩ := I.list (.of e2)
    obtain ⟨j, h1, h3, h4, h5, h6⟩ := atI_get h1
    obtain ⟨w', ew, rw'⟩ := r.get h3
    have hl := r.length
    have hn := line63
    have fin : EP X pins σ Q w' s := ⟨x', H, I, rw', q x' h2⟩
    by_cases h0 : 0 ≤ n
    · have hj : n.toNat = j := by
        rw [seqIndex_of h0 h6] at h1
        exact Option.some.inj h1
      exact wpAny_getItem_list pl.isList h0 (by omega) (by rw [hj]; simpa using ew) fin
    · have hj : (n + (its.toArray.size : Int)).toNat = j := by
        rw [seqIndex_neg (by omega) h5] at h1
        rw [List.size_toArray, ← hl]
        exact Option.some.inj h1
      exact wpAny_getItem_list_neg pl.isList (by omega) (by rw [List.size_toArray] <;> omega) (by omega) (by rw [hj]; simpa using ew) fin
  · cases e
/-! ### slices -/
def rSlV (F : Fx) (kp : Bool) : V → Option Int → Option Int → Hp → VK → Prop := fun x lo hi H Q => ∃ w O a lv hv v O', SOk F w O H ∧ Rp F w O.length H a x ∧ bound lv = some lo ∧ bound hv = some hi ∧ sliceV kp a lv hv O = some (v, O') ∧
  ∀ w' H' x', SOk F w' O' H' → Le w O H w' O' H' → Rp F w' O'.length H' v x' → Q x' H'
theorem RpL.cut {w : Wd} {n : Nat} {H : Hp} {l : List Val} {xs : List V} (r : RpL F w n H l xs) (lo hi : Option Int) : RpL F w n H (cutG l lo hi) (cutV xs lo hi) := by
  unfold cutG cutV
  rw [← r.length]
  exact (r.drop _).take _

theorem sliceV_cases {kp : Bool} {a lv hv v : Val} {O O' : Store} (e : sliceV kp a lv hv O = some (v, O')) : ∃ lo hi, bound lv = some lo ∧ bound hv = some hi ∧ ((∃ l, a = .tup l ∧ v = .tup (cutG l lo hi) ∧ O' = O) ∨
    (∃ s, a = .str s ∧ smallLen s.length = true ∧ v = .str ⟨(cutG s.cps.toList lo hi).toArray⟩ ∧ O' = O) ∨ ∃ l, listOf O a = some l ∧ newL kp (cutG l lo hi) O = some (v, O')) := by
  unfold sliceV at e
  split at e
  · rename_i lo hi h1 h2
    refine ⟨lo, hi, h1, h2, ?_⟩
    split at e
    · cases e; exact .inl ⟨_, rfl, rfl, rfl⟩
    · split at e
      · rename_i h
        cases e
        exact .inr (.inl ⟨_, rfl, h, rfl, rfl⟩)
      · cases e
    · split at e
      · rename_i l h
        exact .inr (.inr ⟨l, h, e⟩)
      · cases e
  · cases e
theorem cut_whole {α : Type} {l : List α} {lo hi : Option Int} (h : HT.sIx l.length 0 lo = 0 ∧ HT.sIx l.length l.length hi = l.length) : cutG l lo hi = l := by
  unfold cutG
  rw [h.1, h.2, List.drop_zero, Nat.sub_zero, List.take_length]
theorem sl_val (hK : X.K = F.K) {kp : Bool} : SlR X (rSlV F kp) := by
  intro pins s σ H x v vl vu lo hi sl Q I rx hs pl pu ⟨w, O, a, lv, hv, r, O', sk, ra, b1, b2, e, q⟩
  obtain ⟨lo', hi', c1, c2, h⟩ := sliceV_cases e
  rw [b1] at c1
  rw [b2] at c2
  cases c1
  cases c2
  rcases h with ⟨l, rfl, rfl, rfl⟩ | ⟨z, rfl, hz, rfl, rfl⟩ | ⟨l, hl, e9⟩
  · obtain ⟨p, xs, e1, e2, e3⟩ := ra
    have hle : xs.length ≤ sizeLine := by
      subst e1
      cases rx
      obtain ⟨_, _, _, z⟩ := I.tuple (show SqT X.K H p xs by rw [hK]; exact e2.sq)
      exact z
    refine sl_tupA pins s σ H x v vl vu lo hi sl Q I rx hs pl pu ⟨p, xs, e1, by rw [hK]; exact e2.sq, fun hw => ?_, fun _ p' hp => ?_⟩
    · refine q w H _ sk Le.refl ⟨p, xs, rfl, e2, ?_⟩
      rw [← e3.length] at hw
      rw [cut_whole hw]
      exact e3
    · obtain ⟨q1, q2⟩ := sk.alloc (.tup (cutV xs lo hi)) (fun _ z => nomatch z) hp
      exact q _ _ _ q1 q2 ⟨p', _, rfl, .inl ⟨.inr rfl, upd_same⟩, (e3.cut lo hi).le sk q2⟩
  · have := sl_str pins s σ H x v vl vu lo hi sl Q I rx hs pl pu ⟨z, ra, smallLen_le hz, q w H _ sk Le.refl ?_⟩
    · exact this
    · show V.str _ = V.str _
      unfold cutS cutG
      rfl
  · obtain ⟨p, xs, e1, e2, e3⟩ := ra.listOf sk hl
    obtain ⟨_, st⟩ := newL_step sk (e3.cut lo hi) e9
    refine sl_list pins s σ H x v vl vu lo hi sl Q I rx hs pl pu ⟨p, xs, e1, .of e2, fun p' hp => ?_⟩
    obtain ⟨w', s', l', r'⟩ := st p' hp
    exact q w' _ _ s' l' r'

/-! ### built-in functions -/
def rBlt (F : Fx) (b : Blt) (kp : Bool) : List V → Hp → VK → Prop := fun xs H Q => ∃ w O vs v O', SOk F w O H ∧ RpL F w O.length H vs xs ∧ bltV b kp vs O = some (v, O') ∧
  ∀ w' H' x', SOk F w' O' H' → Le w O H w' O' H' → Rp F w' O'.length H' v x' → Q x' H'
def Blt.fv : Blt → Value
  | .len => .builtin "len" | .abs => .builtin "abs" | .min => .builtin "min" | .max => .builtin "max" | .toInt => .type "int" | .tuple => .type "tuple" | .list => .type "list"
  | .all => .builtin "all" | .any => .builtin "any" | .sum => .builtin "sum" | .gcd => .builtin "math.gcd" | .lcm => .builtin "math.lcm" | .isqrt => .builtin "math.isqrt"
theorem RpL.of1 {w : Wd} {n : Nat} {H : Hp} {v : Val} {xs : List V} (r : RpL F w n H [v] xs) : ∃ x, xs = [x] ∧ Rp F w n H v x := by
  obtain ⟨x, t, e, q, s⟩ := r
  rw [show t = [] from s] at e
  exact ⟨x, e, q⟩
theorem RpL.of2 {w : Wd} {n : Nat} {H : Hp} {v u : Val} {xs : List V} (r : RpL F w n H [v, u] xs) : ∃ x y, xs = [x, y] ∧ Rp F w n H v x ∧ Rp F w n H u y := by
  obtain ⟨x, t, e, q, s⟩ := r
  obtain ⟨y, e2, q2⟩ := RpL.of1 s
  rw [e2] at e
  exact ⟨x, y, e, q, q2⟩
/-! len -/
theorem cr_len (hK : X.K = F.K) {kp : Bool} : CallR X (.builtin "len") (rBlt F .len kp) := by
  intro pins s σ H xs us Q I r ⟨w, O, vs, v, O', sk, rv, e, q⟩
  unfold bltV at e
  split at e
  all_goals first | contradiction | skip
  · obtain ⟨x, rfl, rx⟩ := rv.of1
    split at e
    · rename_i h
      cases e
      exact call_len pins s σ H _ us Q I r ⟨x, _, rfl, by rw [show x = .str _ from rx]; exact ⟨smallLen_le h, rfl⟩, q w H _ sk Le.refl rfl⟩
    · cases e
  · obtain ⟨x, rfl, rx⟩ := rv.of1
    cases e
    obtain ⟨p, ys, rfl, h2, h3⟩ := rx
    refine call_len pins s σ H _ us Q I r ⟨_, _, rfl, .inl ⟨ys, by rw [hK]; exact h2.elim (fun q => .inl q.2) .inr, rfl⟩, ?_⟩
    rw [← h3.length]
    exact q w H _ sk Le.refl rfl
  · obtain ⟨x, rfl, rx⟩ := rv.of1
    split at e
    · rename_i l h
      cases e
      obtain ⟨p, ys, rfl, h2, h3⟩ := rx.seqOf sk h
      rw [← hK] at h2
      refine call_len pins s σ H _ us Q I r ⟨_, ys.length, rfl, ?_, ?_⟩
      · rcases h2 with h2 | h2
        · exact .inl ⟨ys, h2, rfl⟩
        · exact .inr ⟨ys, h2, rfl⟩
      · rw [← h3.length]
        exact q w H _ sk Le.refl rfl
    · cases e

theorem abs_eq (i : Int) : ((i.natAbs : Nat) : Int) = if i < 0 then -i else i := by
  split <;> omega
theorem cr_abs {kp : Bool} : CallR X (.builtin "abs") (rBlt F .abs kp) := by
  intro pins s σ H xs us Q I r ⟨w, O, vs, v, O', sk, rv, e, q⟩
  unfold bltV at e
  split at e
  all_goals first | contradiction | skip
  obtain ⟨x, rfl, rx⟩ := rv.of1
  cases e
  refine call_abs pins s σ H _ us Q I r ⟨_, by rw [show x = .int _ from rx], q w H _ sk Le.refl ?_⟩
  show V.int _ = V.int _
  rw [abs_eq]
theorem cr_min2 (hc : X.calm = true) {kp : Bool} : CallR X (.builtin "min") (rBlt F .min kp) := by
  intro pins s σ H xs us Q I r ⟨w, O, vs, v, O', sk, rv, e, q⟩
  unfold bltV at e
  split at e
  all_goals first | contradiction | skip
  obtain ⟨x, y, rfl, rx, ry⟩ := rv.of2
  cases e
  exact call_min2 hc pins s σ H _ us Q I r ⟨_, _, by rw [show x = .int _ from rx, show y = .int _ from ry], q w H _ sk Le.refl rfl⟩
theorem RpL.ints {w : Wd} {n : Nat} {H : Hp} : ∀ {l : List Val} {xs : List V} {ns : List Int}, RpL F w n H l xs → intsOf l = some ns → xs = ns.map V.int
  | [], xs, ns, r, e => by
    have e' : some ([] : List Int) = some ns := e
    cases e'
    exact r
  | v :: t, xs, ns, r, e => by
    unfold intsOf at e
    split at e
    · rename_i h
      cases h
    · rename_i i r' h
      cases h
      split at e
      · rename_i m hm
        cases e
        obtain ⟨x, ys, e1, q, s⟩ := r
        rw [e1, List.map_cons, ← RpL.ints s hm, show x = .int i from q]
      · cases e
    · cases e
theorem foldmax_mem : ∀ (l : List Int) (x : Int), (l.foldl (fun a b => if a < b then b else a) x) ∈ x :: l ∧ ∀ y ∈ x :: l, y ≤ l.foldl (fun a b => if a < b then b else a) x
  | [], x => ⟨by simp, fun y h => by simp at h; simp [h]⟩
  | b :: l, x => by
    rw [List.foldl_cons]
    obtain ⟨h1, h2⟩ := foldmax_mem l (if x < b then b else x)
    have hm : x ≤ (if x < b then b else x) ∧ b ≤ (if x < b then b else x) ∧ ((if x < b then b else x) = x ∨ (if x < b then b else x) = b) := by
      split <;> omega
    generalize (if x < b then b else x) = m at h1 h2 hm ⊢
    have h3 := h2 _ (List.mem_cons_self)
    refine ⟨?_, fun y hy => ?_⟩
    · rcases List.mem_cons.mp h1 with h | h
      · rw [h]; rcases hm.2.2 with e | e <;> simp [e]
      · simp [h]
    · rcases List.mem_cons.mp hy with h | h
      · subst h; omega
      · rcases List.mem_cons.mp h with h | h
        · subst h; omega
        · exact h2 y (List.mem_cons_of_mem _ h)
/-- max of a tuple of ints -/
theorem max_tup_raw {prog : Program} {w : World} {A : Around} {E : Value → Shared → Prop} {s : Shared} {l : Addr} {its : List Value} {ns : List Int} {Q : Value → Shared → Prop} (hh : A.handled = none) (hl : s.heap.IsTuple l its.toArray) (hi : IntsAre its ns) (hne : 0 < ns.length)
    (h : ∀ h' tk M t', (∀ b o, s.heap.get? b = some o → h'.get? b = some o) → M ∈ ns → (∀ a, a ∈ ns → a ≤ M) → Q (.int M t') { s with heap := h', toks := tk }) : wpAny (model prog w) A (call (.builtin "max") [.ref l]) Q E s := by
  obtain ⟨xs, e⟩ := hi.allInts.items
  have hn : numsOf (intItems xs).toList = ns := by rw [← e]; exact hi.numsOf
  rw [nums_intItems] at hn
  subst hn
  rw [e] at hl
  have hsz : 0 < xs.size := by simpa using hne
  have hlt : l < s.heap.objs.size := by obtain ⟨_, e, _⟩ := hl; exact Heap.lt_size e
  have hlI : l ≠ s.heap.objs.size := Nat.ne_of_lt hlt
  refine PySem.call_max_walk (wpAny_pyIter_tuple hl ?_)
  refine ⟨_, _, _, _, _, _, _, rfl, Walks.tuple (A := A.in1) hh _ l hlI (intItems xs), ⟨⟨_, Heap.get?_push_size _ rfl, rfl, rfl⟩, Heap.IsTuple.at hl fun o e => Heap.get?_push_of_some _ e⟩, fun b hb => ?_, by simpa [intItems] using hsz, CmpOf.ints_gt (numAt xs) (fun _ _ => intItems_at), fun v h' tk hP hk => ?_⟩
  · show b < (s.heap.push _).objs.size
    rw [Heap.size_push]
    rcases List.mem_cons.mp hb with z | hb
    · rw [z]; exact Nat.lt_succ_self _
    · rcases List.mem_cons.mp hb with z | hb
      · rw [z]; exact Nat.lt_succ_of_lt hlt
      · cases hb
  · have hP' : (intItems xs)[argBest (fun i j => decide (numAt xs i > numAt xs j)) (xs.size - 1)]? = some v := by simpa [intItems] using hP
    obtain ⟨t, rfl⟩ := intItems_at hP'
    obtain ⟨h1, h2⟩ := argBest_gt (numAt xs) (xs.size - 1)
    refine h h' tk _ t (fun b o e => hk b o (fun z => Nat.ne_of_lt (Heap.lt_size e) (List.mem_singleton.mp z)) (Heap.get?_push_of_some _ e)) ?_ fun a ha => ?_
    · rw [numAt_eq]; exact PySem.getD_mem (by rw [List.length_map, Array.length_toList]; omega)
    · obtain ⟨j, hj, rfl⟩ := mem_getD ha
      rw [List.length_map, Array.length_toList] at hj
      rw [← numAt_eq]
      exact h2 j (by omega)
theorem cr_max12 (hK : X.K = F.K) (hc : X.calm = true) {kp : Bool} : CallR X (.builtin "max") (rBlt F .max kp) := by
  intro pins s σ H xs us Q I r ⟨w, O, vs, v, O', sk, rv, e, q⟩
  unfold bltV at e
  split at e
  all_goals first | contradiction | skip
  · obtain ⟨x, y, rfl, rx, ry⟩ := rv.of2
    cases e
    exact call_max2 hc pins s σ H _ us Q I r ⟨_, _, by rw [show x = .int _ from rx, show y = .int _ from ry], q w H _ sk Le.refl rfl⟩
  · obtain ⟨x, rfl, rx⟩ := rv.of1
    split at e
    · rename_i vv _ _ l h
      split at e
      · rename_i i m hm
        cases e
        have fin : ∀ k, k ∈ i :: m → (∀ a, a ∈ i :: m → a ≤ k) → Q (.int k) H := fun k h1 h2 => by
          obtain ⟨f1, f2⟩ := foldmax_mem m i
          have : k = m.foldl (fun a b => if a < b then b else a) i := Int.le_antisymm (f2 k h1) (h2 _ f1)
          rw [this]
          exact q w H _ sk Le.refl rfl
        have lst : ∀ {v : Val}, Rp F w O.length H v x → listOf O v = some l → wpAny (model X.prog X.w) X.A (call (.builtin "max") us) (EP X pins σ Q) X.xe s := fun {v} rx h => by
          obtain ⟨p, ys, rfl, h2, h3⟩ := rx.listOf sk h
          have hy := h3.ints hm
          exact cr_max hc pins s σ H _ us Q I r ⟨p, i :: m, rfl, by rw [← hy]; exact .of h2, by simp, fin⟩
        cases vv with
        | tup l' =>
          have e' : some l' = some l := h
          cases e'
          obtain ⟨p, ys, rfl, h2, h3⟩ := id rx
          have hy := h3.ints hm
          subst hy
          obtain ⟨its, rvv, p1, _⟩ := I.tuple (show SqT X.K H p _ by rw [hK]; exact h2.sq)
          rw [Vals.ref1 r]
          exact max_tup_raw (I.ok.hd hc) (show s.heap.IsTuple p its.toArray from p1) rvv.ints (by simp) fun h' tk M t' hk h1 h2 => ⟨.int _, H, I.kept hk, ⟨_, rfl⟩, fin M h1 h2⟩
        | _ => exact lst rx h
      · cases e
    · cases e
theorem cr_int {kp : Bool} : CallR X (.type "int") (rBlt F .toInt kp) := by
  intro pins s σ H xs us Q I r ⟨w, O, vs, v, O', sk, rv, e, q⟩
  unfold bltV at e
  split at e
  all_goals first | contradiction | skip
  · obtain ⟨x, rfl, rx⟩ := rv.of1
    cases e
    exact call_int1 pins s σ H _ us Q I r (.inl ⟨_, by rw [show x = .int _ from rx], q w H _ sk Le.refl rfl⟩)
  · obtain ⟨x, rfl, rx⟩ := rv.of1
    cases e
    rename_i b _
    refine call_int1 pins s σ H _ us Q I r (.inr ⟨_, by rw [show x = .bl _ from rx], q w H _ sk Le.refl ?_⟩)
    cases b <;> rfl
theorem cr_tuple (hK : X.K = F.K) {kp : Bool} : CallR X (.type "tuple") (rBlt F .tuple kp) := by
  intro pins s σ H xs us Q I r ⟨w, O, vs, v, O', sk, rv, e, q⟩
  unfold bltV at e
  split at e
  all_goals first | contradiction | skip
  obtain ⟨x, rfl, rx⟩ := rv.of1
  split at e
  · rename_i u l h
    split at e
    · unfold Mn.seqOf at h
      split at h
      · cases h
        obtain ⟨p, ys, rfl, h2, h3⟩ := rx
        have hO : O' = O ∧ v = .tup l := by
          unfold newT at e
          split at e <;> cases e
          exact ⟨rfl, rfl⟩
        obtain ⟨rfl, rfl⟩ := hO
        exact call_tuple_of pins s σ H _ us Q I r ⟨p, ys, rfl, .inr ⟨by rw [hK]; exact h2.sq, q w H _ sk Le.refl ⟨p, ys, rfl, h2, h3⟩⟩⟩
      · obtain ⟨p, ys, rfl, h2, h3⟩ := rx.listOf sk h
        obtain ⟨_, st⟩ := newT_step sk h3 e
        refine call_tuple_of pins s σ H _ us Q I r ⟨p, ys, rfl, .inl ⟨.of h2, fun p' hp => ?_⟩⟩
        obtain ⟨w', s', l', r'⟩ := st p' hp
        exact q w' _ _ s' l' r'
    · cases e
  · cases e
theorem cr_list (hK : X.K = F.K) {kp : Bool} : CallR X (.type "list") (rBlt F .list kp) := by
  intro pins s σ H xs us Q I r ⟨w, O, vs, v, O', sk, rv, e, q⟩
  unfold bltV at e
  split at e
  all_goals first | contradiction | skip
  obtain ⟨x, rfl, rx⟩ := rv.of1
  split at e
  · rename_i u l h
    obtain ⟨p, ys, rfl, h2, h3⟩ := rx.seqOf sk h
    obtain ⟨_, st⟩ := newL_step sk h3 e
    rw [← hK] at h2
    refine call_list_of pins s σ H _ us Q I r ⟨p, ys, rfl, h2, fun p' hp => ?_⟩
    obtain ⟨w', s', l', r'⟩ := st p' hp
    exact q w' _ _ s' l' r'
  · cases e
theorem cr_sum1 (hc : X.calm = true) {kp : Bool} : CallR X (.builtin "sum") (rBlt F .sum kp) := by
  intro pins s σ H xs us Q I r ⟨w, O, vs, v, O', sk, rv, e, q⟩
  unfold bltV at e
  split at e
  all_goals first | contradiction | skip
  obtain ⟨x, rfl, rx⟩ := rv.of1
  split at e
  · rename_i u l h
    split at e
    · rename_i m hm
      cases e
      obtain ⟨p, ys, rfl, h2, h3⟩ := rx.listOf sk h
      exact cr_sum hc pins s σ H _ us Q I r ⟨p, m, rfl, by rw [← h3.ints hm]; exact .of h2, q w H _ sk Le.refl rfl⟩
    · cases e
  · cases e
theorem cr_gcd1 {kp : Bool} : CallR X (.builtin "math.gcd") (rBlt F .gcd kp) := by
  intro pins s σ H xs us Q I r ⟨w, O, vs, v, O', sk, rv, e, q⟩
  unfold bltV at e
  split at e
  all_goals first | contradiction | skip
  obtain ⟨x, y, rfl, rx, ry⟩ := rv.of2
  cases e
  exact cr_gcd pins s σ H _ us Q I r ⟨_, _, by rw [show x = .int _ from rx, show y = .int _ from ry], q w H _ sk Le.refl rfl⟩
theorem shortI_le {i : Int} (h : shortI i = true) : i.natAbs.log2 < 13000 := by
  unfold shortI at h
  rw [Nat.blt_eq] at h
  exact h
theorem log_max {a b k : Nat} (ha : a.log2 < k) (hb : b.log2 < k) : (max a b).log2 < k := by
  rcases Nat.le_total a b with h | h
  · rw [Nat.max_eq_right h]; exact hb
  · rw [Nat.max_eq_left h]; exact ha
theorem cr_lcm1 {kp : Bool} : CallR X (.builtin "math.lcm") (rBlt F .lcm kp) := by
  intro pins s σ H xs us Q I r ⟨w, O, vs, v, O', sk, rv, e, q⟩
  unfold bltV at e
  split at e
  all_goals first | contradiction | skip
  obtain ⟨x, y, rfl, rx, ry⟩ := rv.of2
  split at e
  · rename_i i j _ _ h
    cases e
    simp only [Bool.and_eq_true] at h
    have h1 := shortI_le h.1
    have h2 := shortI_le h.2
    have r' : Vals [V.int i, V.int j] us := by
      rw [show x = .int i from rx, show y = .int j from ry] at r
      exact r
    obtain ⟨t, u, rfl⟩ := Vals.int2 r'
    have hm := log_max (k := 13000) (a := 1) (by decide) h1
    have hm2 := log_max h1 h2
    have hl : ((((Nat.lcm 1 i.natAbs).lcm j.natAbs : Nat) : Int)).natAbs.log2 < bitsLine := by
      rw [Nat.lcm_one_left, Int.natAbs_natCast]
      have hle : i.natAbs.lcm j.natAbs ≤ i.natAbs * j.natAbs := by
        by_cases h0 : i.natAbs * j.natAbs = 0
        · rcases Nat.mul_eq_zero.mp h0 with h0 | h0 <;> simp [h0]
        · exact Nat.le_of_dvd (Nat.pos_of_ne_zero h0) (Nat.lcm_dvd_mul _ _)
      have b1 : i.natAbs < 2 ^ 13000 := Nat.lt_of_lt_of_le Nat.lt_log2_self (Nat.pow_le_pow_right (by decide) h1)
      have b2 : j.natAbs < 2 ^ 13000 := Nat.lt_of_lt_of_le Nat.lt_log2_self (Nat.pow_le_pow_right (by decide) h2)
      have b3 : i.natAbs.lcm j.natAbs < 2 ^ 26000 := by
        refine Nat.lt_of_le_of_lt hle ?_
        have : (2 : Nat) ^ 26000 = 2 ^ 13000 * 2 ^ 13000 := by rw [← Nat.pow_add]
        rw [this]
        exact Nat.mul_lt_mul'' b1 b2
      have : (i.natAbs.lcm j.natAbs).log2 ≤ 25999 := PySem.W.mg_log b3
      unfold bitsLine
      omega
    refine call_function_meets PySem.W.MGF.kind_lcm PySem.W.MGF.plain_lcm PySem.W.MGF.entry_lcm (PySem.W.MGF.args_lcm _ _) (PySem.W.mg_run_lcm i t j u (by omega) (by omega) hl).meets ?_
    refine ⟨.int _, H, I.tok _, ⟨_, rfl⟩, q w H _ sk Le.refl ?_⟩
    show V.int _ = V.int _
    unfold lcmI
    rw [Nat.lcm_one_left]
  · cases e
theorem cr_isqrt1 {kp : Bool} : CallR X (.builtin "math.isqrt") (rBlt F .isqrt kp) := by
  intro pins s σ H xs us Q I r ⟨w, O, vs, v, O', sk, rv, e, q⟩
  unfold bltV at e
  split at e
  all_goals first | contradiction | skip
  obtain ⟨x, rfl, rx⟩ := rv.of1
  split at e
  · rename_i i _ _ h
    cases e
    simp only [Bool.and_eq_true, decide_eq_true_eq] at h
    have h1 := shortI_le h.2
    have ht : i.toNat = i.natAbs := by omega
    obtain ⟨u, rfl, r1⟩ := vals1 r
    rw [show x = .int i from rx] at r1
    obtain ⟨t, rfl⟩ := r1
    refine call_function_meets PySem.W.MGF.kind_isqrt PySem.W.MGF.plain_isqrt PySem.W.MGF.entry_isqrt (PySem.W.MGF.args_isqrt _) (PySem.W.mg_run_isqrt i t (by omega) (by rw [ht]; omega) (by rw [ht]; omega)).meets ?_
    exact ⟨.int _, H, I.tok _, ⟨_, rfl⟩, q w H _ sk Le.refl rfl⟩
  · cases e
/-! any, all -/
theorem truthL_get : ∀ {l : List Val} {bs : List Bool} {i : Nat} {v : Val}, truthL l = some bs → l[i]? = some v → ∃ b, bs[i]? = some b ∧ truth v = some b
  | [], _, _, _, _, e => by simp at e
  | a :: t, bs, i, v, h, e => by
    unfold truthL at h
    split at h
    · rename_i b m h1 h2
      cases h
      cases i with
      | zero =>
        have e' : a = v := by simpa using e
        rw [← e']
        exact ⟨b, rfl, h1⟩
      | succ i =>
        obtain ⟨b', q1, q2⟩ := truthL_get (i := i) h2 (by simpa using e)
        exact ⟨b', by simpa using q1, q2⟩
    · cases h
theorem truthL_len : ∀ {l : List Val} {bs : List Bool}, truthL l = some bs → bs.length = l.length
  | [], bs, h => by
    have h' : some ([] : List Bool) = some bs := h
    cases h'; rfl
  | a :: t, bs, h => by
    unfold truthL at h
    split at h
    · rename_i b m h1 h2
      cases h
      rw [List.length_cons, List.length_cons, truthL_len h2]
    · cases h
theorem truth_items {w : Wd} {n : Nat} {H : Hp} {l : List Val} {xs : List V} {bs : List Bool} {its : List Value} {prog : Program} {wd : World} {A : Around} (r : RpL F w n H l xs) (hb : truthL l = some bs) (rv : Vals xs its) :
    TruthOf prog wd A (fun i v => its.toArray[i]? = some v) (fun i => bs.getD i false) := fun i u s Q E hv hq => by
  have hv' : its[i]? = some u := by simpa using hv
  have hi : i < xs.length := by
    have := rv.length
    have := (List.getElem?_eq_some_iff.mp hv').1
    omega
  obtain ⟨v, h1, h2⟩ := r.get' (List.getElem?_eq_getElem hi)
  obtain ⟨b, h3, h4⟩ := truthL_get hb h1
  obtain ⟨u', h5, h6⟩ := rv.get (List.getElem?_eq_getElem hi)
  rw [hv'] at h5
  cases h5
  have hq' : Q (bs.getD i false) s := hq
  rw [show bs.getD i false = b by rw [List.getD_eq_getElem?_getD, h3] <;> rfl] at hq'
  unfold truth at h4
  split at h4
  · cases h4
    rw [show xs[i] = .bl b from h2] at h6
    cases h6
    exact wpAny_truthy_bool hq'
  · cases h4
    rename_i k
    rw [show xs[i] = .int k from h2] at h6
    obtain ⟨t, rfl⟩ := h6
    refine PySem.P.truthy_int ?_
    have : (k != 0) = !decide (k = 0) := by
      rw [bne, Bool.beq_eq_decide_eq]
    rw [this]
    exact hq'
  · cases h4
theorem iter_anyT {prog : Program} {w : World} {A : Around} {E : Value → Shared → Prop} {s : Shared} {l : Addr} {items : Array Value} {Q : Value → Shared → Prop} (hl : s.heap.IsTuple l items)
    (h : ∀ s₂ : Shared, s₂ = { s with heap := s.heap.push { cls := .type "tuple_iterator", data := .fields #[.ref l, .int 0 0] } } →
      (s₂.heap.IsTupleIter s.heap.objs.size l 0 ∧ s₂.heap.IsTuple l items) → l ≠ s.heap.objs.size → Q (.ref s.heap.objs.size) s₂) : wpAny (model prog w) A (pyIter (.ref l)) Q E s := by
  have hlt : l < s.heap.objs.size := by obtain ⟨_, e, _⟩ := hl; exact Heap.lt_size e
  exact wpAny_pyIter_tuple hl (h _ rfl ⟨⟨_, Heap.get?_push_size _ rfl, rfl, rfl⟩, hl.at fun o e => Heap.get?_push_of_some _ e⟩ (Nat.ne_of_lt hlt))
theorem kept_push {s : Shared} {h' : Heap} {ob : Obj} (hk : ∀ b o, b ∉ [s.heap.objs.size] → (s.heap.push ob).get? b = some o → h'.get? b = some o) : ∀ b o, s.heap.get? b = some o → h'.get? b = some o := fun b o eo =>
  hk b o (fun hmem => by
    rcases List.mem_cons.mp hmem with e1 | hmem
    · exact absurd (e1 ▸ Heap.lt_size eo) (Nat.lt_irrefl _)
    · cases hmem) (Heap.get?_push_of_some _ eo)
theorem cr_any1 (hK : X.K = F.K) (hc : X.calm = true) {kp : Bool} : CallR X (.builtin "any") (rBlt F .any kp) := by
  intro pins s σ H xs us Q I r ⟨w, O, vs, v, O', sk, rv, e, q⟩
  unfold bltV at e
  split at e
  all_goals first | contradiction | skip
  obtain ⟨x, rfl, rx⟩ := rv.of1
  split at e
  · rename_i u l h
    split at e
    · rename_i bs hb
      cases e
      obtain ⟨p, ys, rfl, h2, h3⟩ := rx.seqOf sk h
      rw [← hK] at h2
      have hl := h3.length
      have hbl := truthL_len hb
      have fin : ∀ (its : List Value), Vals ys its → (List.range its.toArray.size).any (fun i => bs.getD i false) = bs.any id := fun its rv => by
        have := rv.length
        rw [List.size_toArray, ← this, ← hl, ← hbl]
        exact any_range bs
      rw [Vals.ref1 r]
      rcases h2 with h2 | h2
      · obtain ⟨its, rv, pl, _⟩ := I.list h2
        refine call_any_walk (iter_any pl.isList fun s₂ e2 st hne => ?_)
        subst e2
        refine ⟨_, _, _, _, _, _, _, rfl, Walks.list (A := X.A.in1) (I.ok.hd hc) _ p hne its.toArray, st, truth_items h3 hb rv, fun h' tk hk => ?_⟩
        exact ⟨.bl (bs.any id), H, I.kept (kept_push hk), by rw [fin its rv]; rfl, q w H _ sk Le.refl rfl⟩
      · obtain ⟨its, rv, pl, _⟩ := I.tuple h2
        refine call_any_walk (iter_anyT (show s.heap.IsTuple p its.toArray from pl) fun s₂ e2 st hne => ?_)
        subst e2
        refine ⟨_, _, _, _, _, _, _, rfl, Walks.tuple (A := X.A.in1) (I.ok.hd hc) _ p hne its.toArray, st, truth_items h3 hb rv, fun h' tk hk => ?_⟩
        exact ⟨.bl (bs.any id), H, I.kept (kept_push hk), by rw [fin its rv]; rfl, q w H _ sk Le.refl rfl⟩
    · cases e
  · cases e
theorem cr_all1 (hK : X.K = F.K) (hc : X.calm = true) {kp : Bool} : CallR X (.builtin "all") (rBlt F .all kp) := by
  intro pins s σ H xs us Q I r ⟨w, O, vs, v, O', sk, rv, e, q⟩
  unfold bltV at e
  split at e
  all_goals first | contradiction | skip
  obtain ⟨x, rfl, rx⟩ := rv.of1
  split at e
  · rename_i u l h
    split at e
    · rename_i bs hb
      cases e
      obtain ⟨p, ys, rfl, h2, h3⟩ := rx.seqOf sk h
      rw [← hK] at h2
      have hl := h3.length
      have hbl := truthL_len hb
      have fin : ∀ (its : List Value), Vals ys its → (List.range its.toArray.size).all (fun i => bs.getD i false) = bs.all id := fun its rv => by
        have := rv.length
        rw [List.size_toArray, ← this, ← hl, ← hbl]
        exact all_range bs
      rw [Vals.ref1 r]
      rcases h2 with h2 | h2
      · obtain ⟨its, rv, pl, _⟩ := I.list h2
        refine call_all_walk (iter_any pl.isList fun s₂ e2 st hne => ?_)
        subst e2
        refine ⟨_, _, _, _, _, _, _, rfl, Walks.list (A := X.A.in1) (I.ok.hd hc) _ p hne its.toArray, st, truth_items h3 hb rv, fun h' tk hk => ?_⟩
        exact ⟨.bl (bs.all id), H, I.kept (kept_push hk), by rw [fin its rv]; rfl, q w H _ sk Le.refl rfl⟩
      · obtain ⟨its, rv, pl, _⟩ := I.tuple h2
        refine call_all_walk (iter_anyT (show s.heap.IsTuple p its.toArray from pl) fun s₂ e2 st hne => ?_)
        subst e2
        refine ⟨_, _, _, _, _, _, _, rfl, Walks.tuple (A := X.A.in1) (I.ok.hd hc) _ p hne its.toArray, st, truth_items h3 hb rv, fun h' tk hk => ?_⟩
        exact ⟨.bl (bs.all id), H, I.kept (kept_push hk), by rw [fin its rv]; rfl, q w H _ sk Le.refl rfl⟩
    · cases e
  · cases e
theorem cr_blt (hK : X.K = F.K) (hc : X.calm = true) (b : Blt) {kp : Bool} : CallR X b.fv (rBlt F b kp) := by
  cases b with
  | len => exact cr_len hK
  | abs => exact cr_abs
  | min => exact cr_min2 hc
  | max => exact cr_max12 hK hc
  | toInt => exact cr_int
  | tuple => exact cr_tuple hK
  | list => exact cr_list hK
  | all => exact cr_all1 hK hc
  | any => exact cr_any1 hK hc
  | sum => exact cr_sum1 hc
  | gcd => exact cr_gcd1
  | lcm => exact cr_lcm1
  | isqrt => exact cr_isqrt1
end
end Mn
end

section
set_option Elab.async false
set_option linter.all false
set_option maxRecDepth 100000
set_option maxHeartbeats 2000000
/-! M2e: expressions' readings, put together. -/
namespace Mn
open PySem PySem.Spec PyProof.Rows L2

/-! ### argument lists -/
def RA (F : Fx) (Q : List V → Hp → Prop) : List Val → Wd → Store → Hp → Prop := fun vs w O H => ∀ xs, RpL F w O.length H vs xs → Q xs H
def TAv (F : Fx) (E : L2.St → XK) (fs : Env → Store → Res (List Val)) : TA := fun σ H Q => ∃ w ρ O, SOk F w O H ∧ ROk F w O.length H ρ σ ∧ Pst F w O H (fs ρ O) (RA F Q) (E σ)
theorem TAv.go {F : Fx} {w : Wd} {O : Store} {H : Hp} {E : L2.St → XK} {ρ : Env} {σ : L2.St} {β : Type} {f : Env → Store → Res (List Val)} {k : List Val → Store → Res β} {R : β → Wd → Store → Hp → Prop} {Q : List V → Hp → Prop} (s : SOk F w O H) (r : ROk F w O.length H ρ σ) (h : Pst F w O H ((f ρ O).bind k) R (E σ))
    (q : ∀ v w1 O1 H1 x, SOk F w1 O1 H1 → ROk F w1 O1.length H1 ρ σ → Le w O H w1 O1 H1 → RpL F w1 O1.length H1 v x → Pst F w1 O1 H1 (k v O1) R (E σ) → Q x H1) : TAv F E f σ H Q :=
  ⟨w, ρ, O, s, r, h.bind.imp fun v w' O' H' s' l' z x rx => q v w' O' H' x s' (r.le s l') l' rx z⟩

section
variable {X : Cx} {F : Fx} {E : L2.St → XK} {f g h : Env → Store → Res Val} {fs : Env → Store → Res (List Val)} {a b c : Expr} {es : List Expr} {pos : Pos}
theorem ga_nil : PA X [] (TAv F E fun _ O => .ok [] O) := pa_nil.imp fun σ H Q ⟨w, ρ, O, s, r, z⟩ => z.here s [] rfl
theorem ga_cons (ha : PE X a (TEv F E f)) (hr : PA X es (TAv F E fs)) (hs : starEach (a :: es) X.env = (false, eval a X.env) :: starEach es X.env) :
    PA X (a :: es) (TAv F E fun ρ O => (f ρ O).bind fun x O1 => (fs ρ O1).bind fun xs O2 => .ok (x :: xs) O2) :=
  (pa_cons ha hr hs).imp fun σ H Q ⟨w, ρ, O, s, r, z⟩ => TEv.go s r z fun v w1 O1 H1 x s1 r1 l1 rx z1 => TAv.go s1 r1 z1 fun vs w2 O2 H2 xs s2 r2 l2 rxs z2 =>
    z2.here s2 (x :: xs) ⟨x, xs, rfl, rx.le s1 l2, rxs⟩
/-- the items of a display -/
theorem ga_consE {fz : Bool} (ha : PE X a (TEv F E f)) (hr : PA X es (TAv F E fs)) (hs : starEach (a :: es) X.env = (false, eval a X.env) :: starEach es X.env) :
    PA X (a :: es) (TAv F E fun ρ O => (f ρ O).bind fun x O1 => match emb fz x O1 with
      | some (x', O2) => (fs ρ O2).bind fun xs O3 => .ok (x' :: xs) O3
      | none => .bad) :=
  (pa_cons ha hr hs).imp fun σ H Q ⟨w, ρ, O, s, r, z⟩ => TEv.go s r z fun v w1 O1 H1 x s1 r1 l1 rx z1 => by
    split at z1
    · rename_i v' O2 hE
      obtain ⟨w2, s2, l2, rx2⟩ := emb_step s1 rx hE
      exact TAv.go s2 (r1.le s1 l2) (z1.after l2) fun vs w3 O3 H3 xs s3 r3 l3 rxs z3 => z3.here s3 (x :: xs) ⟨x, xs, rfl, rx2.le s2 l3, rxs⟩
    · exact z1.elim
theorem ga_star (hK : X.K = F.K) {p : Pos} (ha : PE X a (TEv F E f)) (hr : PA X es (TAv F E fs)) (hs : starEach (.Starred a p :: es) X.env = (true, eval a X.env) :: starEach es X.env) :
    PA X (.Starred a p :: es) (TAv F E fun ρ O => (f ρ O).bind fun x O1 => match Mn.seqOf O1 x with
      | some l => (fs ρ O1).bind fun xs O2 => .ok (l ++ xs) O2
      | none => .bad) :=
  (StX.pa_star ha hr hs).imp fun σ H Q ⟨w, ρ, O, s, r, z⟩ => TEv.go s r z fun v w1 O1 H1 x s1 r1 l1 rx z1 => by
    split at z1
    · rename_i l hl
      obtain ⟨p, ys, e1, e2, e3⟩ := rx.seqOf s1 hl
      rw [← hK] at e2
      refine ⟨p, ys, e1, e2.symm, TAv.go s1 r1 z1 fun vs w3 O3 H3 xs s3 r3 l3 rxs z3 => z3.here s3 (ys ++ xs) ((e3.le s1 l3).append rxs)⟩
    · exact z1.elim

/-! ### operators -/
theorem ge_bin (hK : X.K = F.K) {kp : Bool} {op : Bop} (ha : PE X a (TEv F E f)) (hb : PE X b (TEv F E g)) :
    PE X (.BinOp a op.op b pos) (TEv F E fun ρ O => (f ρ O).bind fun x O1 => (g ρ O1).bind fun y O2 => ofO2 (binV kp op x y O2)) :=
  (pe_op (op_bin hK op) ha hb).imp fun σ H Q ⟨w, ρ, O, s, r, z⟩ => TEv.go s r z fun v w1 O1 H1 x s1 r1 l1 rx z1 => TEv.go s1 r1 z1 fun u w2 O2 H2 y s2 r2 l2 ry z2 => by
    cases e : binV kp op v u O2 with
    | none => rw [e] at z2; exact z2.elim
    | some p =>
      obtain ⟨o, O3⟩ := p
      rw [e] at z2
      exact ⟨w2, O2, v, u, o, O3, s2, rx.le s1 l2, ry, e, fun w' H' x' s' l' rx' => z2 w' H' s' l' x' rx'⟩
theorem ge_neg (ha : PE X a (TEv F E f)) : PE X (.UnaryOp .USub a pos) (TEv F E fun ρ O => (f ρ O).bind fun x O1 => match x with | .int i => .ok (.int (-i)) O1 | _ => .bad) :=
  (pe_un un_neg ha).imp fun σ H Q ⟨w, ρ, O, s, r, z⟩ => TEv.go s r z fun v w1 O1 H1 x s1 r1 l1 rx z1 => by
    split at z1
    · exact ⟨_, rx, z1.here s1 _ rfl⟩
    · exact z1.elim
theorem ge_not (ha : PE X a (TEv F E f)) : PE X (.UnaryOp .Not a pos) (TEv F E fun ρ O => (f ρ O).bind fun x O1 => match x with | .bl b => .ok (.bl (!b)) O1 | _ => .bad) :=
  (pe_not ha).imp fun σ H Q ⟨w, ρ, O, s, r, z⟩ => TEv.go s r z fun v w1 O1 H1 x s1 r1 l1 rx z1 => by
    split at z1
    · exact ⟨_, rx, z1.here s1 _ rfl⟩
    · exact z1.elim
/-- a test within -/
theorem TTv.go {w : Wd} {O : Store} {H : Hp} {ρ : Env} {σ : L2.St} {β : Type} {f : Env → Store → Res Val} {k : Val → Store → Res β} {R : β → Wd → Store → Hp → Prop} {Q : Bool → Hp → Prop} (s : SOk F w O H) (r : ROk F w O.length H ρ σ) (h : Pst F w O H ((f ρ O).bind k) R (E σ))
    (q : ∀ v w1 O1 H1, SOk F w1 O1 H1 → ROk F w1 O1.length H1 ρ σ → Le w O H w1 O1 H1 → Pst F w1 O1 H1 (k v O1) R (E σ) → ∃ b, v = .bl b ∧ Q b H1) : TTv F E f σ H Q :=
  ⟨w, ρ, O, s, r, h.bind.imp fun v w' O' H' s' l' z => q v w' O' H' s' (r.le s l') l' z⟩
theorem gt_not (ha : PT X a (TTv F E f)) : PT X (.UnaryOp .Not a pos) (TTv F E fun ρ O => (f ρ O).bind fun x O1 => match x with | .bl b => .ok (.bl (!b)) O1 | _ => .bad) :=
  (pt_not ha).imp fun σ H Q ⟨w, ρ, O, s, r, z⟩ => TTv.go s r z fun v w1 O1 H1 s1 r1 l1 z1 => by
    split at z1
    · obtain ⟨b, e, q⟩ := z1.here s1
      cases e
      exact ⟨_, rfl, q⟩
    · exact z1.elim
theorem ge_cmp (hK : X.K = F.K) (hu : X.A.units + 65 < cLine) {op : Cop} (ha : PE X a (TEv F E f)) (hb : PE X b (TEv F E g)) (hm : behindInMarks op.op b = false) :
    PE X (.Compare a [op.op] [b] pos) (TEv F E fun ρ O => (f ρ O).bind fun x O1 => (g ρ O1).bind fun y O2 => match cmpV op x y O2 with | some r => .ok (.bl r) O2 | none => .bad) :=
  (pe_cmpR (op_cmp hK hu op) ha hb hm).imp fun σ H Q ⟨w, ρ, O, s, r, z⟩ => TEv.go s r z fun v w1 O1 H1 x s1 r1 l1 rx z1 => TEv.go s1 r1 z1 fun u w2 O2 H2 y s2 r2 l2 ry z2 => by
    split at z2
    · rename_i o e
      exact ⟨w2, O2, v, u, o, s2, rx.le s1 l2, ry, e, z2.here s2 _ rfl⟩
    · exact z2.elim
theorem gt_cmp (hK : X.K = F.K) (hu : X.A.units + 65 < cLine) {op : Cop} (ha : PE X a (TEv F E f)) (hb : PE X b (TEv F E g)) (hm : behindInMarks op.op b = false) :
    PT X (.Compare a [op.op] [b] pos) (TTv F E fun ρ O => (f ρ O).bind fun x O1 => (g ρ O1).bind fun y O2 => match cmpV op x y O2 with | some r => .ok (.bl r) O2 | none => .bad) :=
  (pt_cmpR (op_cmp hK hu op) ha hb hm).imp fun σ H Q ⟨w, ρ, O, s, r, z⟩ => TEv.go s r z fun v w1 O1 H1 x s1 r1 l1 rx z1 => TEv.go s1 r1 z1 fun u w2 O2 H2 y s2 r2 l2 ry z2 => by
    split at z2
    · rename_i o e
      obtain ⟨b, eb, q⟩ := z2.here s2
      cases eb
      exact ⟨w2, O2, v, u, o, s2, rx.le s1 l2, ry, e, ⟨_, rfl, q⟩⟩
    · exact z2.elim
theorem ge_chn (hK : X.K = F.K) (hu : X.A.units + 65 < cLine) {op op' : Cop} (ha : PE X a (TEv F E f)) (hb : PE X b (TEv F E g)) (hc : PE X c (TEv F E h)) (hm : lastMarks [op.op, op'.op] [b, c] = false) :
    PE X (.Compare a [op.op, op'.op] [b, c] pos) (TEv F E fun ρ O => (f ρ O).bind fun x O1 => (g ρ O1).bind fun y O2 => match cmpV op x y O2 with
      | some true => (h ρ O2).bind fun z O3 => match cmpV op' y z O3 with
        | some r => .ok (.bl r) O3
        | none => .bad
      | some false => .ok (.bl false) O2
      | none => .bad) :=
  (pe_chain (op_cmp hK hu op) (op_cmp hK hu op') ha hb hc hm).imp fun σ H Q ⟨w, ρ, O, s, r, z⟩ => TEv.go s r z fun v w1 O1 H1 x s1 r1 l1 rx z1 => TEv.go s1 r1 z1 fun u w2 O2 H2 y s2 r2 l2 ry z2 => by
    split at z2
    · rename_i e
      refine ⟨w2, O2, v, u, true, s2, rx.le s1 l2, ry, e, true, rfl, ?_⟩
      rw [if_pos rfl]
      exact TEv.go s2 r2 z2 fun t w3 O3 H3 y3 s3 r3 l3 rt z3 => by
        split at z3
        · rename_i o e3
          exact ⟨w3, O3, u, t, o, s3, ry.le s2 l3, rt, e3, z3.here s3 _ rfl⟩
        · exact z3.elim
    · rename_i e
      refine ⟨w2, O2, v, u, false, s2, rx.le s1 l2, ry, e, false, rfl, ?_⟩
      rw [if_neg Bool.false_ne_true]
      exact z2.here s2 _ rfl
    · exact z2.elim
theorem gt_chn (hK : X.K = F.K) (hu : X.A.units + 65 < cLine) {op op' : Cop} (ha : PE X a (TEv F E f)) (hb : PE X b (TEv F E g)) (hc : PE X c (TEv F E h)) (hm : lastMarks [op.op, op'.op] [b, c] = false) :
    PT X (.Compare a [op.op, op'.op] [b, c] pos) (TTv F E fun ρ O => (f ρ O).bind fun x O1 => (g ρ O1).bind fun y O2 => match cmpV op x y O2 with
      | some true => (h ρ O2).bind fun z O3 => match cmpV op' y z O3 with
        | some r => .ok (.bl r) O3
        | none => .bad
      | some false => .ok (.bl false) O2
      | none => .bad) :=
  (pt_chain (op_cmp hK hu op) (op_cmp hK hu op') ha hb hc hm).imp fun σ H Q ⟨w, ρ, O, s, r, z⟩ => TEv.go s r z fun v w1 O1 H1 x s1 r1 l1 rx z1 => TEv.go s1 r1 z1 fun u w2 O2 H2 y s2 r2 l2 ry z2 => by
    split at z2
    · rename_i e
      refine ⟨w2, O2, v, u, true, s2, rx.le s1 l2, ry, e, true, rfl, ?_⟩
      rw [if_pos rfl]
      exact TEv.go s2 r2 z2 fun t w3 O3 H3 y3 s3 r3 l3 rt z3 => by
        split at z3
        · rename_i o e3
          obtain ⟨b, eb, q⟩ := z3.here s3
          cases eb
          exact ⟨w3, O3, u, t, o, s3, ry.le s2 l3, rt, e3, _, rfl, q⟩
        · exact z3.elim
    · rename_i e
      refine ⟨w2, O2, v, u, false, s2, rx.le s1 l2, ry, e, false, rfl, ?_⟩
      rw [if_neg Bool.false_ne_true]
      obtain ⟨b, eb, q⟩ := z2.here s2
      cases eb
      exact ⟨_, rfl, q⟩
    · exact z2.elim
/-! and, or -/
theorem ge_and {rest : List Expr} (ha : PE X a (TEv F E f)) (hb : PE X (.BoolOp .And (b :: rest) pos) (TEv F E g)) :
    PE X (.BoolOp .And (a :: b :: rest) pos) (TEv F E fun ρ O => (f ρ O).bind fun x O1 => match x with
      | .bl true => g ρ O1
      | .bl false => .ok (.bl false) O1
      | _ => .bad) :=
  (pe_and ha hb).imp fun σ H Q ⟨w, ρ, O, s, r, z⟩ => TEv.go s r z fun v w1 O1 H1 x s1 r1 l1 rx z1 => by
    split at z1
    · exact ⟨true, rx, by rw [if_pos rfl]; exact TEv.mk s1 r1 z1⟩
    · exact ⟨false, rx, by rw [if_neg Bool.false_ne_true]; exact z1.here s1 _ rfl⟩
    · exact z1.elim
theorem ge_or {rest : List Expr} (ha : PE X a (TEv F E f)) (hb : PE X (.BoolOp .Or (b :: rest) pos) (TEv F E g)) :
    PE X (.BoolOp .Or (a :: b :: rest) pos) (TEv F E fun ρ O => (f ρ O).bind fun x O1 => match x with
      | .bl true => .ok (.bl true) O1
      | .bl false => g ρ O1
      | _ => .bad) :=
  (pe_or ha hb).imp fun σ H Q ⟨w, ρ, O, s, r, z⟩ => TEv.go s r z fun v w1 O1 H1 x s1 r1 l1 rx z1 => by
    split at z1
    · exact ⟨true, rx, by rw [if_pos rfl]; exact z1.here s1 _ rfl⟩
    · exact ⟨false, rx, by rw [if_neg Bool.false_ne_true]; exact TEv.mk s1 r1 z1⟩
    · exact z1.elim
theorem TTv.mk {w : Wd} {O : Store} {H : Hp} {ρ : Env} {σ : L2.St} {f : Env → Store → Res Val} {Q : Bool → Hp → Prop} (s : SOk F w O H) (r : ROk F w O.length H ρ σ) (h : Pst F w O H (f ρ O) (RB Q) (E σ)) : TTv F E f σ H Q := ⟨w, ρ, O, s, r, h⟩
theorem gw_and {rest : List Expr} (ha : PT X a (TTv F E f)) (hb : PW X (.BoolOp .And (b :: rest) pos) (TTv F E g)) :
    PW X (.BoolOp .And (a :: b :: rest) pos) (TTv F E fun ρ O => (f ρ O).bind fun x O1 => match x with
      | .bl true => g ρ O1
      | .bl false => .ok (.bl false) O1
      | _ => .bad) :=
  ⟨fun wh pins st σ H Q I ⟨w, ρ, O, s, r, z⟩ => (pw_and ha hb).run wh pins st σ H Q I (TTv.go s r z fun v w1 O1 H1 s1 r1 l1 z1 => by
    split at z1
    · exact ⟨true, rfl, by rw [if_pos rfl]; exact TTv.mk s1 r1 z1⟩
    · obtain ⟨b, e, q⟩ := z1.here s1
      cases e
      exact ⟨false, rfl, by rw [if_neg Bool.false_ne_true]; exact q⟩
    · exact z1.elim)⟩
theorem gw_or {rest : List Expr} (ha : PT X a (TTv F E f)) (hb : PW X (.BoolOp .Or (b :: rest) pos) (TTv F E g)) :
    PW X (.BoolOp .Or (a :: b :: rest) pos) (TTv F E fun ρ O => (f ρ O).bind fun x O1 => match x with
      | .bl true => .ok (.bl true) O1
      | .bl false => g ρ O1
      | _ => .bad) :=
  ⟨fun wh pins st σ H Q I ⟨w, ρ, O, s, r, z⟩ => (pw_or ha hb).run wh pins st σ H Q I (TTv.go s r z fun v w1 O1 H1 s1 r1 l1 z1 => by
    split at z1
    · obtain ⟨b, e, q⟩ := z1.here s1
      cases e
      exact ⟨true, rfl, by rw [if_pos rfl]; exact q⟩
    · exact ⟨false, rfl, by rw [if_neg Bool.false_ne_true]; exact TTv.mk s1 r1 z1⟩
    · exact z1.elim)⟩
theorem ge_ite (hc : PT X c (TTv F E h)) (ha : PE X a (TEv F E f)) (hb : PE X b (TEv F E g)) :
    PE X (.IfExp c a b pos) (TEv F E fun ρ O => (h ρ O).bind fun x O1 => match x with
      | .bl true => f ρ O1
      | .bl false => g ρ O1
      | _ => .bad) :=
  (pe_ifExp hc ha hb).imp fun σ H Q ⟨w, ρ, O, s, r, z⟩ => TTv.go s r z fun v w1 O1 H1 s1 r1 l1 z1 => by
    split at z1
    · exact ⟨true, rfl, by rw [if_pos rfl]; exact TEv.mk s1 r1 z1⟩
    · exact ⟨false, rfl, by rw [if_neg Bool.false_ne_true]; exact TEv.mk s1 r1 z1⟩
    · exact z1.elim
/-! displays, subscripts, slices -/
theorem ge_tup {k : Nat} (h : PA X es (TAv F E fs)) : PE X (.Tuple es k pos) (TEv F E fun ρ O => (fs ρ O).bind fun vs O1 => ofO2 (newT vs O1)) :=
  (pe_tup h).imp fun σ H Q ⟨w, ρ, O, s, r, z⟩ => TAv.go s r z fun vs w1 O1 H1 xs s1 r1 l1 rx z1 => by
    cases e : newT vs O1 with
    | none => rw [e] at z1; exact z1.elim
    | some p =>
      obtain ⟨o, O3⟩ := p
      rw [e] at z1
      obtain ⟨hz, st⟩ := newT_step s1 rx e
      refine ⟨hz, fun p hp => ?_⟩
      obtain ⟨w', s', l', r'⟩ := st p hp
      exact z1 w' _ s' l' _ r'
theorem ge_lst {kp : Bool} (h : PA X es (TAv F E fs)) : PE X (.List es pos) (TEv F E fun ρ O => (fs ρ O).bind fun vs O1 => ofO2 (newL kp vs O1)) :=
  (pe_lst h).imp fun σ H Q ⟨w, ρ, O, s, r, z⟩ => TAv.go s r z fun vs w1 O1 H1 xs s1 r1 l1 rx z1 => by
    cases e : newL kp vs O1 with
    | none => rw [e] at z1; exact z1.elim
    | some p =>
      obtain ⟨o, O3⟩ := p
      rw [e] at z1
      obtain ⟨hz, st⟩ := newL_step s1 rx e
      refine ⟨hz, fun p hp => ?_⟩
      obtain ⟨w', s', l', r'⟩ := st p hp
      exact z1 w' _ s' l' _ r'
theorem ge_idx (hK : X.K = F.K) (ha : PE X a (TEv F E f)) (hb : PE X b (TEv F E g)) (hs : PlainIx b) :
    PE X (.Subscript a b pos) (TEv F E fun ρ O => (f ρ O).bind fun x O1 => (g ρ O1).bind fun y O2 => ofO (idxV x y O2) O2) :=
  (pe_ix (ix_val hK) ha hb hs).imp fun σ H Q ⟨w, ρ, O, s, r, z⟩ => TEv.go s r z fun v w1 O1 H1 x s1 r1 l1 rx z1 => TEv.go s1 r1 z1 fun u w2 O2 H2 y s2 r2 l2 ry z2 => by
    cases e : idxV v u O2 with
    | none => rw [e] at z2; exact z2.elim
    | some o =>
      rw [e] at z2
      exact ⟨w2, O2, v, u, o, s2, rx.le s1 l2, ry, e, fun x' rx' => z2.here s2 x' rx'⟩
/-- a part of a slice -/
def POv (F : Fx) (E : L2.St → XK) (f : Env → Store → Res Val) : TO := fun σ H Q => ∃ w ρ O, SOk F w O H ∧ ROk F w O.length H ρ σ ∧ Pst F w O H (f ρ O) (fun v w' O' H' => ∃ o, bound v = some o ∧ Q o H') (E σ)
theorem po_v0 : PO X none (POv F E fun _ O => .ok .non O) := ⟨fun pins s σ H Q I ⟨w, ρ, O, sk, r, z⟩ => po_none.run pins s σ H Q I (by
  obtain ⟨o, e, q⟩ := z.here sk
  cases e
  exact q)⟩
theorem po_v1 (h : PE X a (TEv F E f)) : PO X (some a) (POv F E fun ρ O => (f ρ O).bind fun x O1 => match x with | .int _ => .ok x O1 | _ => .bad) := ⟨fun pins s σ H Q I ⟨w, ρ, O, sk, r, z⟩ => (po_some h).run pins s σ H Q I (by
  refine TEv.go sk r z fun v w1 O1 H1 x s1 r1 l1 rx z1 => ?_
  split at z1
  · obtain ⟨o, e, q⟩ := z1.here s1
    cases e
    exact ⟨_, rx, q⟩
  · exact z1.elim)⟩
theorem ge_sl (hK : X.K = F.K) (hg : ∀ ρ O v O', g ρ O = .ok v O' → ∃ o, bound v = some o) {kp : Bool} {lo hi : Option Expr} {p2 : Pos} (ha : PE X a (TEv F E f)) (hl : PO X lo (POv F E g)) (hh : PO X hi (POv F E h)) :
    PE X (.Subscript a (.Slice lo hi none p2) pos) (TEv F E fun ρ O => (f ρ O).bind fun x O1 => (g ρ O1).bind fun y O2 => (h ρ O2).bind fun z O3 => ofO2 (sliceV kp x y z O3)) :=
  (pe_slice (sl_val hK) ha hl hh).imp fun σ H Q ⟨w, ρ, O, s, r, z⟩ => TEv.go s r z fun v w1 O1 H1 x s1 r1 l1 rx z1 =>
    ⟨w1, ρ, O1, s1, r1, z1.bind.impE fun u w2 O2 H2 eg s2 l2 z2 => by
      obtain ⟨lo', hlo⟩ := hg _ _ _ _ eg
      refine ⟨lo', hlo, w2, ρ, O2, s2, r1.le s1 l2, z2.bind.imp fun t w3 O3 H3 s3 l3 z3 => ?_⟩
      cases e : sliceV kp v u t O3 with
      | none => rw [e] at z3; exact z3.elim
      | some p =>
        obtain ⟨o, O4⟩ := p
        rw [e] at z3
        obtain ⟨lo2, hi2, b1, b2, _⟩ := sliceV_cases e
        rw [hlo] at b1
        cases b1
        exact ⟨hi2, b2, w3, O3, v, u, t, o, O4, s3, (rx.le s1 l2).le s2 l3, hlo, b2, e, fun w' H' x' s' l' rx' => z3 w' H' s' l' x' rx'⟩⟩
end
end Mn
end

section
set_option Elab.async false
set_option linter.all false
set_option maxRecDepth 100000
set_option maxHeartbeats 2000000
/-! M2p: room, with no guard below: promises of defs under it. -/
namespace Mn
open PySem PySem.Spec PyProof.Rows L2

structure Room (k : Nat) (A : Around) : Prop where
  r : L2.Room k A
  gd : A.guards = some []
theorem Room.mono {j k : Nat} {A : Around} (r : Room k A) (h : j ≤ k) : Room j A := ⟨r.r.mono h, r.gd⟩
theorem Room.deeper {k : Nat} {A : Around} (r : Room (k + 1) A) (env : PySem.Env) : Room k (A.deeper env) := ⟨r.r.deeper env, r.gd⟩
theorem Room.hd {k : Nat} {A : Around} (r : Room k A) : A.handled = none := r.r.hd
theorem Room.dp {k : Nat} {A : Around} (r : Room k A) : A.depth + 3 * k + 5 < recursionLimit := r.r.dp
theorem Room.depth {k : Nat} {A : Around} (r : Room k A) : A.depth < recursionLimit := r.r.depth
theorem Room.in1 {k : Nat} {A : Around} (r : Room (k + 1) A) : Room k A.in1 := ⟨r.r.in1, r.gd⟩
theorem Room.un {k : Nat} {A : Around} (r : Room k A) : A.units + 16 * k + 200 < cLine := r.r.un
theorem Room.make {k : Nat} {A : Around} (hr : Room (k + 1) A) (C : Addr) (us : List Value) (kw : List (Str × Value)) : Room k (A.under (.builtin "type.__call__" ⟨.ref C :: us, kw⟩)) :=
  ⟨hr.r.make C us kw, by
    have e : (Code.builtin "type.__call__" ⟨.ref C :: us, kw⟩).isGuard = false := by first | rfl | simp [Code.isGuard, guardIds]
    have e2 : (A.under (.builtin "type.__call__" ⟨.ref C :: us, kw⟩)).guards = pushGuards (Code.builtin "type.__call__" ⟨.ref C :: us, kw⟩).guards A.guards := by unfold Around.under; rfl
    rw [e2]
    unfold Code.guards
    rw [e, hr.gd]
    rfl⟩
def FnR (P : Program) (w : World) (K : PySem.W.Frag) (mg : Str → Option Value) (base : Heap) (CX : CXT) (k : Nat) (f : Addr) (sp : Sp) : Prop :=
  ∀ (A : Around) (outer : List PySem.Env) (s : Shared) (H : Hp) (us : List Value) (vs : List V) (Q : VK) (E : XK), Room k A → Env0 P w K mg base A outer s H → Vals vs us → sp vs H Q E →
    codeAny (model P w) A (.call (.ref f) ⟨us, []⟩) (CR CX outer P w H s Q E) s
structure FnOk (P : Program) (w : World) (K : PySem.W.Frag) (mg : Str → Option Value) (base : Heap) (CX : CXT) (k : Nat) (f : Addr) (fd : FuncData) (ps : List Str) (sp : Sp) : Prop where
  len : ∀ vs H Q E, sp vs H Q E → vs.length = ps.length
  run : ∀ (A : Around) (outer : List PySem.Env) (s : Shared) (H : Hp) (args : Args) (us : List Value) (vs : List V) (Q : VK) (E : XK), Room k A → Env0 P w K mg base A outer s H → BindsTo s fd args (ps.zip us) → Vals vs us → sp vs H Q E →
    codeAny (model P w) A (.call (.ref f) args) (CR CX outer P w H s Q E) s
section
variable {P : Program} {w : World} {K : PySem.W.Frag} {mg : Str → Option Value} {base : Heap} {CX : CXT} {j k : Nat} {f : Addr} {sp sp' : Sp}
theorem FnR.imp (F : FnR P w K mg base CX k f sp) (h : ∀ vs H Q E, sp' vs H Q E → sp vs H Q E) : FnR P w K mg base CX k f sp' := fun A outer s H us vs Q E hr e0 r hs => F A outer s H us vs Q E hr e0 r (h _ _ _ _ hs)
theorem FnOk.raw {fd : FuncData} {ps : List Str} {ds : List Value} {dvs : List V} (F : FnOk P w K mg base CX k f fd ps sp) (hb : Binds K fd ps ds) (hd : Vals dvs ds) :
    FnR P w K mg base CX k f (fun vs H Q E => sp (vs ++ dvs) H Q E) := by
  intro A outer s H us vs Q E hr e0 r hs
  have r2 : Vals (vs ++ dvs) (us ++ ds) := r.append hd
  have hl : (us ++ ds).length = ps.length := by rw [← r2.length]; exact F.len _ _ _ _ hs
  exact F.run A outer s H ⟨us, []⟩ (us ++ ds) (vs ++ dvs) Q E hr e0 (hb s us (e0.mod.kin.keeps fun b o e => (e0.bs b o e).1) hl) r2 hs
end
theorem run_fnR {X : Cx} {pins : List (Addr × Obj)} {σ : L2.St} {H : Hp} {s : Shared} {CX : CXT} {k : Nat} {f : Addr} {sp : Sp} {E : XK} {Q : VK} {us : List Value} {vs : List V} (F : FnR X.prog X.w X.K X.mg X.base CX k f sp) (hr : Room k X.A) (hx : Passes CX X E) (I : Inv X pins σ H s) (r : Vals vs us) (h : sp vs H Q E) :
    codeAny (model X.prog X.w) X.A (.call (.ref f) ⟨us, []⟩) (fun r s' => match r with | .ok (.ret v) => EP X pins σ Q v s' | .ok _ => False | .error e => X.xe e s') s := by
  refine codeAny_mono (F X.A X.stack s H us vs Q E hr I.env0 r h) fun r s' hq => ?_
  cases r with
  | error e => exact hx pins σ H s e s' I hq
  | ok fl =>
    cases fl with
    | ret u => exact I.after hq
    | next => exact False.elim hq
    | brk => exact False.elim hq
    | cont => exact False.elim hq
theorem fn_of {CX : CXT} {P : Program} {w : World} {K : PySem.W.Frag} {mg : Str → Option Value} {base : Heap} {k : Nat} {f : Addr} {name qual : Str} {params : Arguments} {body : List Stmt} {scope : Scope} {dV kV doc pm cdv ct oc : Value} {an od : Option Addr}
    {osl : Array (Option Value)} {N ps : List Str} {sp : Sp} (lk : K.lookup f = some ⟨oc, od, .func (PySem.W.fnOf name qual params body scope dV kV doc pm an cdv ct), osl⟩) (hcd : PySem.W.codeIn K cdv qual = true) (S : FnScope N ps scope)
    (len : ∀ vs H Q E, sp vs H Q E → vs.length = ps.length)
    (hbody : ∀ (A : Around) (outer : List PySem.Env) (s : Shared) (H : Hp) (vs : List V) (Q : VK) (E : XK), Room k (A.deeper (envOfC qual scope s.heap.objs.size f cdv)) → sp vs H Q E →
      ∃ t, PSs (cxOf CX P w K mg base N qual scope f cdv A outer s H E) body t ∧ t { nx := fun _ H' => Q .non H', rt := Q } (L2.start N vs) H) :
    FnOk P w K mg base CX (k + 1) f (PySem.W.fnOf name qual params body scope dV kV doc pm an cdv ct) ps sp :=
  ⟨len, fun A outer s H args us vs Q E hr e0 hb r hsp => LamX.run_ofS lk hcd S hr.r e0 hb r (len _ _ _ _ hsp) fun hr' => hbody A outer s H vs Q E ⟨hr', hr.gd⟩ hsp⟩
section
variable {X : Cx} {pins : List (Addr × Obj)} {σ : L2.St} {H : Hp} {s : Shared}
/-- x(), in the def that got the lambda: Z is that def's context, entered at s -/
theorem pe_act {CXg : CXT} {Eg : XK} {Ng : List Str} {qg : Str} {sg : Scope} {g f c' : Addr} {cdg pm ctv : Value} {params : Arguments} {body : Expr} {scope : Scope} {k i : Nat} {a : Str} {pn : List (Addr × Obj)} {xe : Value → Shared → Prop} {W : WX} {E : XK} {tb : TE} {p1 p2 : Pos}
    (I : Inv X pins σ H s) (L : LamX.LamS X.env.scope scope) (hf : s.heap.get? f = some (PySem.W.kla_obj "<lambda>" (X.env.qual ++ "<lambda>") params body scope (cloFrom X.env.cells scope.names []) pm c' ctv)) (hfn : H f = none) (hfr : f ∉ frs X.stack)
    (hbind : bindArgs (PySem.W.kla_fn "<lambda>" (X.env.qual ++ "<lambda>") params body scope (cloFrom X.env.cells scope.names []) pm (.ref c') ctv) ⟨[], []⟩ = pure [])
    (tk : Takes ((cxOf CXg X.prog X.w X.K X.mg X.base Ng qg sg g cdg X.A X.stack s H Eg).tr pn xe) W) (hW : ∀ cls d σ' H', σ'.length = Ng.length → E cls d H' → W cls d σ' H') (hr : Room (k + 1) (X.A.deeper (envOfC qg sg s.heap.objs.size g cdg)))
    (hbody : ∀ (A : Around) (outer : List PySem.Env) (s : Shared) (H : Hp), Room k (A.deeper (LamX.lamEnv X scope s.heap.objs.size f c')) → PE (LamX.lamCx X A outer s H E scope f c') body tb)
    (hN : Ng[i]? = some a) (hv : Vis sg a) (hd : (a == ("__debug__" : Str)) = false := by decide) (hcd : (a == ("__classdict__" : Str)) = false := by decide) :
    PE ((cxOf CXg X.prog X.w X.K X.mg X.base Ng qg sg g cdg X.A X.stack s H Eg).tr pn xe) (.Call (.Name a p1) [] [] p2)
      (fun σZ HZ Q => σZ.length = Ng.length ∧ σZ[i]? = some (some (.ref f)) ∧ HZ c' = some (LamX.CodeO c' (X.env.qual ++ "<lambda>")) ∧ tb σ HZ Q) := by
  refine ⟨fun pinsZ sZ σZ HZ Q IZ h => ?_⟩
  obtain ⟨hlen, hs, hc, ht⟩ := h
  refine wpAny_Call_Name_kw (thn ((pe_var (pos := p1) (i := i) hN hv hd hcd).run pinsZ sZ σZ HZ (fun v H1 => v = .ref f ∧ H1 = HZ) IZ ⟨.ref f, hs, rfl, rfl⟩) fun u s1 ⟨v, H1, I1, r1, q1⟩ => ?_)
  obtain ⟨ev, eH⟩ := q1
  subst ev
  rw [eH] at I1
  obtain rfl : u = Value.ref f := r1
  have of1 : s1.heap.get? f = some (PySem.W.kla_obj "<lambda>" (X.env.qual ++ "<lambda>") params body scope (cloFrom X.env.cells scope.names []) pm c' ctv) := I1.base.keep f _ hf hfn hfr (fun z => nomatch (show f ∈ ([] : List Addr) from z))
  refine PySem.W.callWith_F0 ⟨_, _, _, _, of1⟩ ?_
  have un : Un (frs X.stack) [] H HZ s.heap s1.heap := I1.base
  obtain ⟨⟨oc, vs, t, hoc, hdc, hvc⟩, _, _⟩ := I1.hok c' _ hc
  have rc : codeAny (model X.prog X.w) (X.A.deeper (envOfC qg sg s.heap.objs.size g cdg)) (.call (.ref f) ⟨[], []⟩) (CR (L2.CX X.prog X.w) (envOfC qg sg s.heap.objs.size g cdg :: X.stack) X.prog X.w HZ s1 Q E) s1 := by
    refine PySem.W.kla_callFunE hr.r.depth of1 rfl L.co L.gen rfl ⟨c', oc, vs, t, rfl, hoc, hdc, hvc⟩ ?_
    rw [hbind]
    refine wpAny_pure (wpAny_newFunctionEnv (fun y hy => (L.own y hy).2) (fun y hy => absurd hy (by simp)) (fun h₁ hns hsb => ⟨I1.nolimit.fresh _ hsb, ?_⟩) L.kind)
    show codeAny _ _ (.expr body (LamX.lamEnv X scope s1.heap.objs.size f c')) _ _
    have kp : ∀ b o, s1.heap.get? b = some o → h₁.get? b = some o := fun b o e => hsb.extBut b o (Nat.ne_of_lt (Heap.lt_size e)) (Heap.get?_push_of_some _ e)
    have J : Inv (LamX.lamCx X (X.A.deeper (envOfC qg sg s.heap.objs.size g cdg)) (envOfC qg sg s.heap.objs.size g cdg :: X.stack) s1 HZ E scope f c') [] σ HZ { s1 with heap := h₁, toks := s1.toks + ([] : List (Str × Value)).length } :=
      LamX.lam_start2 I L I1.env0 hr.r.hd un hns kp
    refine PySem.W.kla_codeExpr (wpAny_mono ((hbody _ _ s1 HZ (hr.deeper _)).run [] _ _ HZ Q J ht) (fun v s' hq => ?_) fun e s' hq => hq)
    obtain ⟨w', H', J', rv, q⟩ := hq
    exact ⟨w', H', J'.os, J'.bare, J'.base, J'.hok, rv, q⟩
  refine wpAny_call (codeAny_mono rc fun r s' hq => ?_)
  cases r with
  | error e => exact tk e s' (XE.of_call I1 (fun cls d H' h => hW cls d σZ H' hlen h) hq)
  | ok fl =>
    cases fl with
    | ret u => exact I1.after hq
    | next => exact False.elim hq
    | brk => exact False.elim hq
    | cont => exact False.elim hq
end
section
variable {CX : CXT} {P : Program} {w : World} {K : PySem.W.Frag} {mg : Str → Option Value} {base : Heap} {k : Nat} {f : Addr} {name qual : Str} {params : Arguments} {body : List Stmt} {scope : Scope} {dV kV doc pm cdv ct oc : Value} {an od : Option Addr}
  {osl : Array (Option Value)} {N ps : List Str} {sp : Sp}
theorem fn_star {pv : Str} (lk : K.lookup f = some ⟨oc, od, .func (PySem.W.fnOf name qual params body scope dV kV doc pm an cdv ct), osl⟩) (hcd : PySem.W.codeIn K cdv qual = true) (S : FnScope N (ps ++ [pv]) scope) (hCX : StX.CXUp CX)
    (hb : ∀ us rest : List Value, us.length = ps.length → bindArgs (PySem.W.fnOf name qual params body scope dV kV doc pm an cdv ct) ⟨us ++ rest, []⟩ = (newTuple rest >>= fun t => pure (ps.zip us ++ [(pv, t)])))
    (hbody : ∀ (A : Around) (outer : List PySem.Env) (s : Shared) (H : Hp) (vs : List V) (Q : VK) (E : XK), Room k (A.deeper (envOfC qual scope s.heap.objs.size f cdv)) → sp vs H Q E →
      ∃ t, PSs (cxOf CX P w K mg base N qual scope f cdv A outer s H E) body t ∧ t { nx := fun _ H' => Q .non H', rt := Q } (L2.start N vs) H) :
    FnR P w K mg base CX (k + 1) f (fun vs H Q E => ∃ ws rest, vs = ws ++ rest ∧ ws.length = ps.length ∧ rest.length ≤ sizeLine ∧ ∀ p, H p = Option.none → sp (ws ++ [V.ref p]) (upd H p (.tup rest)) Q E) := by
  intro A outer s H us vs Q E hr e0 r hsp
  obtain ⟨ws, rest, ev, hl, hz, hq⟩ := hsp
  subst ev
  obtain ⟨u1, u2, eu, r1, r2⟩ := StX.vals_split r
  subst eu
  have hn : H s.heap.objs.size = Option.none := e0.hok.fresh (Nat.le_refl _)
  have hl1 : u1.length = ps.length := by rw [← r1.length]; exact hl
  have hl2 : u2.length ≤ sizeLine := by rw [← r2.length]; exact hz
  refine StX.run_bnd lk hcd S hr.r e0 (G := fun xs H2 => ∃ p, H p = Option.none ∧ xs = ws ++ [V.ref p] ∧ H2 = upd H p (.tup rest)) (fun A' Ex Q' h => ?_) fun s2 H2 xs ⟨p, hp, ex, eH⟩ hr' => ?_
  · rw [hb u1 u2 hl1]
    refine wpAny_bind (wpAny_newTuple (wpAny_pure ?_) hl2)
    have new : ObjOk P w (upd H s.heap.objs.size (.tup rest)) (s.heap.push ({ cls := .type "tuple", data := .seq u2.toArray } : Obj)) s.heap.objs.size (.tup rest) := ⟨hz, u2, r2, ⟨_, Heap.get?_push_size _ rfl, rfl, _, rfl⟩⟩
    have un := StX.un_laid (fs := frs outer) (s := s) (o := ({ cls := .type "tuple", data := .seq u2.toArray } : Obj)) (u := .tup rest) hn
    have z := h _ _ (ws ++ [V.ref s.heap.objs.size]) (u1 ++ [Value.ref s.heap.objs.size]) (StX.env0_laid e0 new) un rfl (fun e s' => hCX outer s H _ _ E e s' un (fun b o q => Heap.get?_push_of_some _ q) rfl) (r1.append (.cons rfl .nil))
      (by rw [List.length_append, List.length_append, hl] <;> rfl) ⟨_, hn, rfl, rfl⟩
    rw [List.zip_append hl1.symm] at z
    exact z
  · subst ex eH
    exact hbody A outer s2 _ _ Q E ⟨hr', hr.gd⟩ (hq p hp)
end
end Mn
end

section
set_option Elab.async false
set_option linter.all false
set_option maxRecDepth 100000
set_option maxHeartbeats 2000000
/-! M2f: names, constants, calls, attributes, instances. -/
namespace Mn
open PySem PySem.Spec PyProof.Rows L2

section
variable {X : Cx} {F : Fx} {E : L2.St → XK} {f g h : Env → Store → Res Val} {fs : Env → Store → Res (List Val)} {a b c e : Expr} {es : List Expr} {pos p : Pos} {x : Str}
theorem ge_var {i : Nat} (hN : X.N[i]? = some x) (hv : Vis X.env.scope x) (hd : (x == ("__debug__" : Str)) = false) (hcd : (x == ("__classdict__" : Str)) = false) :
    PE X (.Name x pos) (TEv F E fun ρ O => match ρ[i]? with | some (some v) => .ok v O | _ => .bad) :=
  (pe_var hN hv hd hcd).imp fun σ H Q ⟨w, ρ, O, s, r, z⟩ => by
    dsimp only at z
    split at z
    · rename_i v hv
      obtain ⟨y, h1, h2⟩ := r.get i v hv
      exact ⟨y, h1, z.here s y h2⟩
    · exact z.elim
/-- a constant of the module, whatever the state -/
def ConOk (F : Fx) (v : Val) (x : V) : Prop := ∀ w n H, Rp F w n H v x
theorem ge_con {u : Value} {v : V} {c : Val} (hg : Gl X x) (hm : X.mg x = some u) (r : RelV v u) (hc : ConOk F c v) (hd : (x == ("__debug__" : Str)) = false) : PE X (.Name x pos) (TEv F E fun _ O => .ok c O) :=
  (pe_glob hg hm r hd).imp fun σ H Q ⟨w, ρ, O, s, r, z⟩ => z.here s v (hc _ _ _)
theorem ge_c {v : V} {c : Val} (h : PE X e (tC v)) (hc : ConOk F c v) : PE X e (TEv F E fun _ O => .ok c O) := h.imp fun σ H Q ⟨w, ρ, O, s, r, z⟩ => z.here s v (hc _ _ _)
theorem ge_edic : PE X (.Dict [] [] pos) (TEv F E fun _ O => .ok .edic O) := pe_dnewK.imp fun σ H Q ⟨w, ρ, O, s, r, z⟩ q hq => by
  obtain ⟨q1, q2⟩ := s.alloc (.dK []) (fun _ z => nomatch z) hq
  exact z _ _ q1 q2 (.ref q) ⟨q, rfl, .inr rfl, upd_same⟩

/-! ### calls -/
/-- what a def promises -/
def spF (F : Fx) (call : List Val → Store → Res Val) : Sp := fun xs H Q E => ∃ w O vs, SOk F w O H ∧ RpL F w O.length H vs xs ∧ Pst F w O H (call vs O) (RE F Q) E
abbrev FnS (X : Cx) (F : Fx) (k : Nat) (f : Addr) (call : List Val → Store → Res Val) : Prop := FnR X.prog X.w X.K X.mg X.base (L2.CX X.prog X.w) k f (spF F call)
theorem run_fnR' {CX : CXT} {k : Nat} {f : Addr} {sp : Sp} {pins : List (Addr × Obj)} {s : Shared} {σ : L2.St} {H : Hp} {E : XK} {Q : VK} {us : List Value} {vs : List V} (Fn : FnR X.prog X.w X.K X.mg X.base CX k f sp) (hr : Room k X.A) (hx : PassesAt CX X σ E) (I : Inv X pins σ H s) (r : Vals vs us)
    (h : sp vs H Q E) : wpAny (model X.prog X.w) X.A (call (.ref f) us) (EP X pins σ Q) X.xe s := by
  refine wpAny_call (codeAny_mono (Fn X.A X.stack s H us vs Q E hr I.env0 r h) fun r s' hq => ?_)
  cases r with
  | error e => exact hx pins H s e s' I hq
  | ok fl =>
    cases fl with
    | ret u => exact I.after hq
    | next => exact False.elim hq
    | brk => exact False.elim hq
    | cont => exact False.elim hq
def tCallR (sp : Sp) (E : L2.St → XK) (t : TA) : TE := fun σ H Q => t σ H fun vs H1 => sp vs H1 Q (E σ)
theorem pe_callR {W : WX} {k : Nat} {f : Addr} {sp : Sp} {t : TA} (Fn : FnR X.prog X.w X.K X.mg X.base (L2.CX X.prog X.w) k f sp) (hr : Room k X.A) (hg : Gl X x) (hm : X.mg x = some (.ref f)) (hk : PySem.W.keepIn X.K (.ref f) = true) (tk : Takes X W) (ha : PA X (e :: es) t)
    (hdb : (x == ("__debug__" : Str)) = false) (he : starEach (e :: es) X.env = (false, eval e X.env) :: starEach es X.env) (hpl : (backTo pos (starEach es X.env)).any (·.1) = false) :
    PE X (.Call (.Name x p) (e :: es) [] pos) (tCallR sp (WE W) t) := by
  refine ⟨fun pins s σ H Q I h => ?_⟩
  refine wpAny_Call_Name_kw (ld_glob I hg hm ?_ hdb)
  refine PySem.W.callWith_K (h₀ := X.base) I.ok.mod.kin hk (thn (ha.run pos pins s σ H _ I h) fun us s1 ⟨vs, H1, I1, r, q⟩ => ⟨I1.kIn, ?_⟩) he hpl
  exact run_fnR' Fn hr (passAt tk σ) I1 r q
theorem pe_callR0 {W : WX} {k : Nat} {f : Addr} {sp : Sp} (Fn : FnR X.prog X.w X.K X.mg X.base (L2.CX X.prog X.w) k f sp) (hr : Room k X.A) (hg : Gl X x) (hm : X.mg x = some (.ref f)) (hk : PySem.W.keepIn X.K (.ref f) = true) (tk : Takes X W)
    (hdb : (x == ("__debug__" : Str)) = false) : PE X (.Call (.Name x p) [] [] pos) (tCallR sp (WE W) tNil) := by
  refine ⟨fun pins s σ H Q I h => ?_⟩
  refine wpAny_Call_Name_kw (ld_glob I hg hm ?_ hdb)
  exact PySem.W.callWith_K0 I.kIn hk (run_fnR' (us := []) Fn hr (passAt tk σ) I .nil h)
/-- the called thing is what a local name holds -/
def tCallVR (i : Nat) (S : Addr → Option Sp) (E : L2.St → XK) (t : TA) : TE := fun σ H Q => ∃ f sp, σ[i]? = some (some (.ref f)) ∧ S f = some sp ∧ t σ H fun vs H1 => sp vs H1 Q (E σ)
theorem pe_callVR {W : WX} {k i : Nat} {S : Addr → Option Sp} {t : TA} (Fn : ∀ f sp, S f = some sp → FnR X.prog X.w X.K X.mg X.base (L2.CX X.prog X.w) k f sp ∧ PySem.W.keepIn X.K (.ref f) = true) (hr : Room k X.A) (hN : X.N[i]? = some x) (hv : Vis X.env.scope x) (tk : Takes X W) (ha : PA X (e :: es) t)
    (hdb : (x == ("__debug__" : Str)) = false) (hcd : (x == ("__classdict__" : Str)) = false) (he : starEach (e :: es) X.env = (false, eval e X.env) :: starEach es X.env) (hpl : (backTo pos (starEach es X.env)).any (·.1) = false) :
    PE X (.Call (.Name x p) (e :: es) [] pos) (tCallVR i S (WE W) t) := by
  refine ⟨fun pins s σ H Q I h => ?_⟩
  obtain ⟨f, sp, hs, hS, ht⟩ := h
  obtain ⟨F1, hk⟩ := Fn f sp hS
  refine wpAny_Call_Name_kw (thn ((pe_var (pos := p) hN hv hdb hcd).run pins s σ H (fun v H1 => v = .ref f ∧ H1 = H) I ⟨.ref f, hs, rfl, rfl⟩) fun u s1 ⟨v, H1, I1, r1, q1⟩ => ?_)
  obtain ⟨rfl, rfl⟩ := q1
  cases r1
  refine PySem.W.callWith_K (h₀ := X.base) I.ok.mod.kin hk (thn (ha.run pos pins s1 σ _ _ I1 ht) fun us s2 ⟨vs, H2, I2, r, q⟩ => ⟨I2.kIn, ?_⟩) he hpl
  exact run_fnR' F1 hr (passAt tk σ) I2 r q
theorem ge_call {W : WX} {k : Nat} {q : Addr} {cl : List Val → Store → Res Val} (Fn : FnS X F k q cl) (hr : Room k X.A) (hg : Gl X x) (hm : X.mg x = some (.ref q)) (hk : PySem.W.keepIn X.K (.ref q) = true) (tk : Takes X W) (ha : PA X (e :: es) (TAv F (WE W) fs))
    (hdb : (x == ("__debug__" : Str)) = false) (he : starEach (e :: es) X.env = (false, eval e X.env) :: starEach es X.env) (hpl : (backTo pos (starEach es X.env)).any (·.1) = false) :
    PE X (.Call (.Name x p) (e :: es) [] pos) (TEv F (WE W) fun ρ O => (fs ρ O).bind fun vs O1 => cl vs O1) :=
  (pe_callR Fn hr hg hm hk tk ha hdb he hpl).imp fun σ H Q ⟨w, ρ, O, s, r, z⟩ => TAv.go s r z fun vs w1 O1 H1 xs s1 r1 l1 rx z1 => ⟨w1, O1, vs, s1, rx, z1⟩
theorem ge_call0 {W : WX} {k : Nat} {q : Addr} {cl : List Val → Store → Res Val} (Fn : FnS X F k q cl) (hr : Room k X.A) (hg : Gl X x) (hm : X.mg x = some (.ref q)) (hk : PySem.W.keepIn X.K (.ref q) = true) (tk : Takes X W)
    (hdb : (x == ("__debug__" : Str)) = false) : PE X (.Call (.Name x p) [] [] pos) (TEv F (WE W) fun ρ O => (Res.ok ([] : List Val) O).bind fun vs O1 => cl vs O1) :=
  (pe_callR0 Fn hr hg hm hk tk hdb).imp fun σ H Q ⟨w, ρ, O, s, r, z⟩ => ⟨w, O, [], s, rfl, z⟩
theorem ge_callV {W : WX} {k i : Nat} {cl : Nat → List Val → Store → Res Val} (Fn : ∀ j, j < F.nf → FnS X F k (F.fa j) (cl j) ∧ PySem.W.keepIn X.K (.ref (F.fa j)) = true) (hr : Room k X.A) (hN : X.N[i]? = some x) (hv : Vis X.env.scope x) (tk : Takes X W) (ha : PA X (e :: es) (TAv F (WE W) fs))
    (hdb : (x == ("__debug__" : Str)) = false) (hcd : (x == ("__classdict__" : Str)) = false) (he : starEach (e :: es) X.env = (false, eval e X.env) :: starEach es X.env) (hpl : (backTo pos (starEach es X.env)).any (·.1) = false) :
    PE X (.Call (.Name x p) (e :: es) [] pos) (TEv F (WE W) fun ρ O => match ρ[i]? with
      | some (some (.fn j)) => (fs ρ O).bind fun vs O1 => cl j vs O1
      | _ => .bad) := by
  refine ⟨fun pins st σ H Q I ⟨w, ρ, O, s, r, z⟩ => ?_⟩
  dsimp only at z
  split at z
  · rename_i j hj
    obtain ⟨y, h1, hj2, h2⟩ := r.get i _ hj
    rw [h2] at h1
    obtain ⟨F1, hk⟩ := Fn j hj2
    refine (pe_callVR (S := fun q => if q = F.fa j then some (spF F (cl j)) else none) (fun q sp hS => ?_) hr hN hv tk ha hdb hcd he hpl).run pins st σ H Q I ⟨F.fa j, spF F (cl j), h1, if_pos rfl, TAv.go s r z fun vs w1 O1 H1 xs s1 r1 l1 rx z1 => ⟨w1, O1, vs, s1, rx, z1⟩⟩
    split at hS
    · rename_i hq
      cases hS
      subst hq
      exact ⟨F1, hk⟩
    · cases hS
  · exact z.elim
/-- a call of a built-in function (or type) by its name -/
theorem ge_blt (hK : X.K = F.K) (hc : X.calm = true) {kp : Bool} {b : Blt} (hg : Gl X x) (hm : (X.mg x = some b.fv ∧ (∃ id, b.fv = .builtin id)) ∨ (X.mg x = none ∧ bootBuiltins x = some b.fv ∧ x ≠ "__name__")) (ha : PA X (e :: es) (TAv F E fs))
    (hdb : (x == ("__debug__" : Str)) = false) (he : starEach (e :: es) X.env = (false, eval e X.env) :: starEach es X.env) (hpl : (backTo pos (starEach es X.env)).any (·.1) = false) :
    PE X (.Call (.Name x p) (e :: es) [] pos) (TEv F E fun ρ O => (fs ρ O).bind fun vs O1 => ofO2 (bltV b kp vs O1)) := by
  have step : ∀ σ H Q, TEv F E (fun ρ O => (fs ρ O).bind fun vs O1 => ofO2 (bltV b kp vs O1)) σ H Q → tCB (rBlt F b kp) (TAv F E fs) σ H Q := fun σ H Q ⟨w, ρ, O, s, r, z⟩ => TAv.go s r z fun vs w1 O1 H1 xs s1 r1 l1 rx z1 => by
    cases e : bltV b kp vs O1 with
    | none => rw [e] at z1; exact z1.elim
    | some q =>
      obtain ⟨o, O3⟩ := q
      rw [e] at z1
      exact ⟨w1, O1, vs, o, O3, s1, rx, e, fun w' H' x' s' l' rx' => z1 w' H' s' l' x' rx'⟩
  have hcr := cr_blt (F := F) hK hc b (kp := kp)
  rcases hm with ⟨hm, id, hid⟩ | ⟨hm, hv, hn⟩
  · rw [hid] at hm hcr
    exact (pe_callBfun hcr hg hm ha hdb he hpl).imp step
  · cases hb : b.fv with
    | builtin id =>
      rw [hb] at hv hcr
      exact (pe_callB hcr hg hm hv ha hn hdb he hpl).imp step
    | type T =>
      rw [hb] at hv hcr
      exact (pe_callTy hcr hg hm hv ha hn hdb he hpl).imp step
    | _ => cases b <;> cases hb
end
/-! ### isinstance -/
def Fx.tyv (F : Fx) : Ty → Value
  | .int => .type "int" | .bool => .type "bool" | .str => .type "str" | .tuple => .type "tuple" | .list => .type "list" | .dict => .type "dict" | .cls c => .ref (F.ca c)
def Fx.tyV (F : Fx) : Ty → V
  | .int => .ty "int" | .bool => .ty "bool" | .str => .ty "str" | .tuple => .ty "tuple" | .list => .ty "list" | .dict => .ty "dict" | .cls c => .ref (F.ca c)
def tyN (T : Ty) (n : String) : Bool := match T with
  | .int => n == "int" || n == "bool" | .bool => n == "bool" | .str => n == "str" | .tuple => n == "tuple" | .list => n == "list" | .dict => n == "dict" | .cls _ => false
def tyC (T : Ty) (c : Nat) : Bool := match T with
  | .cls c' => Nat.beq c c' | _ => false
/-- what the text must say for isinstance(x, T) -/
structure KitOk (F : Fx) (P : Pg) (T : Ty) : Prop where
  bt : ∀ n ∈ ["NoneType", "bool", "int", "str", "tuple", "list", "dict"], PySem.W.kitOne F.K (.type n) (F.tyv T) = some (tyN T n)
  ow : ∀ c k, P.cls[c]? = some k → PySem.W.kitOne F.K (.ref (F.ca c)) (F.tyv T) = some (tyC T c) ∧ SlX.SCls F.K (F.ca c) ∧ SlX.SIsi F.K (F.ca c)
theorem clsV_of {F : Fx} (T : Ty) : ClsV (F.tyV T) (F.tyv T) := by
  cases T <;> first | exact .ty _ | exact .own _
theorem relV_ty {F : Fx} (T : Ty) : RelV (F.tyV T) (F.tyv T) := by
  cases T <;> rfl
section
variable {X : Cx} {F : Fx} {E : L2.St → XK} {f : Env → Store → Res Val} {a : Expr} {pos p p2 : Pos} {t : Str}
theorem ge_isi (hK : X.K = F.K) {P : Pg} {T : Ty} (k : KitOk F P T) (hg : Gl X "isinstance") (hm : X.mg "isinstance" = none) (hv : bootBuiltins "isinstance" = some (.builtin "isinstance")) (ha : PE X a (TEv F E f)) (ht : PE X (.Name t p2) (tC (F.tyV T)))
    (hs : starEach [a, .Name t p2] X.env = (false, eval a X.env) :: starEach [.Name t p2] X.env) (hs2 : starEach [.Name t p2] X.env = (false, eval (.Name t p2) X.env) :: starEach [] X.env) (hpl : (backTo pos (starEach [.Name t p2] X.env)).any (·.1) = false) :
    PE X (.Call (.Name "isinstance" p) [a, .Name t p2] [] pos) (TEv F E fun ρ O => (f ρ O).bind fun x O1 => match isTyP P T x with | some r => .ok (.bl r) O1 | none => .bad) := by
  have hpa : PA X [a, .Name t p2] (tCons (TEv F E f) (tCons (tC (F.tyV T)) tNil)) := pa_cons ha (pa_cons ht pa_nil hs2) hs
  -- by the value: one of the two rules
  refine ⟨fun pins st σ H Q I ⟨w, ρ, O, s, r, z⟩ => ?_⟩
  refine wpAny_Call_Name_kw (ld_blt I hg hm hv ?_ (by decide) (by decide))
  refine PyProof.Rows.callWith_builtin1 (thn (hpa.run pos pins st σ H (fun xs H1 => ∃ x, xs = [x, F.tyV T] ∧ ∃ w1 O1 v, SOk F w1 O1 H1 ∧ Rp F w1 O1.length H1 v x ∧ Pst F w1 O1 H1 (match isTyP P T v with | some r => Res.ok (.bl r) O1 | none => .bad) (RE F Q) (E σ)) I
    (TEv.go s r z fun v w1 O1 H1 x s1 r1 l1 rx z1 => ⟨x, rfl, w1, O1, v, s1, rx, z1⟩)) fun us s1 ⟨xs, H1, I1, r1, x, ex, w1, O1, v, sk, rx, z1⟩ => ?_) hs hpl
  subst ex
  split at z1
  · rename_i b hb
    have q : Q (.bl b) H1 := z1.here sk _ rfl
    have byN : ∀ {n : String}, n ∈ ["NoneType", "bool", "int", "str", "tuple", "list", "dict"] → tyN T n = b → TyX X.K H1 x (.type n) → wpAny (model X.prog X.w) X.A (call (.builtin "isinstance") us) (EP X pins σ Q) X.xe s1 := fun {n} hn e ty =>
      call_isi pins s1 σ H1 _ us Q I1 r1 ⟨x, F.tyV T, .type n, F.tyv T, b, rfl, clsV_of T, ty, by rw [hK, k.bt n hn, e], q⟩
    cases v with
    | non => exact byN (n := "NoneType") (by simp) (by cases T <;> cases hb <;> rfl) (by rw [show x = .non from rx]; exact .base .non)
    | bl y => exact byN (n := "bool") (by simp) (by cases T <;> cases hb <;> rfl) (by rw [show x = .bl y from rx]; exact .base (.bl y))
    | int y => exact byN (n := "int") (by simp) (by cases T <;> cases hb <;> rfl) (by rw [show x = .int y from rx]; exact .base (.int y))
    | str y => exact byN (n := "str") (by simp) (by cases T <;> cases hb <;> rfl) (by rw [show x = .str y from rx]; exact .base (.str y))
    | tup l =>
      obtain ⟨q1, ys, e1, e2, _⟩ := rx
      refine byN (n := "tuple") (by simp) (by cases T <;> cases hb <;> rfl) ?_
      rw [e1]
      rcases e2 with ⟨_, e2⟩ | ⟨o, its, n, k1, k2, _⟩
      · exact .base (.tup e2)
      · exact .kTuple (by rw [hK]; exact k1) k2
    | lst l =>
      obtain ⟨q1, ys, e1, _, e2, _⟩ := rx
      refine byN (n := "list") (by simp) (by cases T <;> cases hb <;> rfl) ?_
      rw [e1]
      exact .base (.lst e2)
    | edic =>
      obtain ⟨q1, e1, _, e2⟩ := rx
      refine byN (n := "dict") (by simp) (by cases T <;> cases hb <;> rfl) ?_
      rw [e1]
      exact .base (.dK e2)
    | obj c l =>
      obtain ⟨q1, dx, vs, ys, e1, _, _, e2, _⟩ := rx
      subst e1
      have hb2 : (match P.cls[c]? with | some _ => isTy T (.obj c l) | none => none) = some b := hb
      split at hb2
      · rename_i kc hkc
        obtain ⟨k1, k2, k3⟩ := k.ow c kc hkc
        have eb : tyC T c = b := by cases T <;> cases hb2 <;> rfl
        exact SlX.call_isiSl (F.tyv T) pins s1 σ H1 _ us Q I1 r1 ⟨q1, F.ca c, dx, vs, F.tyV T, b, rfl, relV_ty T, fun w' hw => (clsV_of T).eq hw, e2, by rw [hK]; exact k2, by rw [hK]; exact k3, by rw [hK, k1, eb], q⟩
      · cases hb2
    | own _ => cases hb
    | fn _ => cases hb
    | exn _ _ => cases hb
    | scr _ => cases hb
  · exact z1.elim
end
end Mn
end

section
set_option Elab.async false
set_option linter.all false
set_option maxRecDepth 100000
set_option maxHeartbeats 2000000
/-! M2g: attributes, instances, methods of lists. -/
namespace Mn
open PySem PySem.Spec PyProof.Rows L2

theorem Pst.noX {α : Type} {F : Fx} {w : Wd} {O : Store} {H : Hp} {r : Res α} {R : α → Wd → Store → Hp → Prop} {E E' : XK} (h : Pst F w O H (noX r) R E) : Pst F w O H r R E' := by
  cases r with
  | ok a O' => exact h
  | exc c p O' => exact (show False from h).elim
  | bad => exact h

/-! ### attributes -/
structure PropOk (K : PySem.W.Frag) (C : Addr) (x : Str) (g : Addr) : Prop where
  ex : ∃ p, PySem.W.findIn K (.ref C) x = some (some (.ref p)) ∧ PySem.W.specialIn K (.ref p) "__get__" = some (some (.builtin "property.__get__")) ∧ PySem.W.takesIn K (.ref p) = some true ∧ ∃ rest, PySem.W.recIn K p "property" = some (.ref g :: rest)
structure AttOk (F : Fx) (P : Pg) (x : Str) (a : Nat) : Prop where
  cls : ∀ c k, P.cls[c]? = some k → SlX.SCls F.K (F.ca c)
  slot : ∀ c k i, P.cls[c]? = some k → k.ats.lookup a = some (.slot i) → ∃ p, SlX.Slot1 F.K (F.ca c) x p i
  prop : ∀ c k g, P.cls[c]? = some k → k.ats.lookup a = some (.prop g) → g < F.nf ∧ PropOk F.K (F.ca c) x (F.fa g)
theorem getprop_sl {X : Cx} {pins : List (Addr × Obj)} {σ : L2.St} {H : Hp} {s : Shared} {a C dx p g : Addr} {vs : List (Option V)} {f : Str} {CX : CXT} {n : Nat} {sp : Sp} {E : XK} {b : Bool} {Q : VK} (I : Inv X pins σ H s) (h : SlX.Slt H a C dx vs) (c : SlX.SCls X.K C) (at_ : PySem.W.findIn X.K (.ref C) f = some (some (.ref p))) (get : PySem.W.specialIn X.K (.ref p) "__get__" = some (some (.builtin "property.__get__")))
    (tk : PySem.W.takesIn X.K (.ref p) = some true) (rc : ∃ rest, PySem.W.recIn X.K p "property" = some (.ref g :: rest)) (F : FnR X.prog X.w X.K X.mg X.base CX n g sp) (hr : Room (n + 1) X.A)
    (hx : ∀ (H : Hp) (s : Shared) (e : Value) (s' : Shared), CX X.stack H s E e s' → False) (q : sp [.ref a] H Q E) : wpAny (model X.prog X.w) X.A (getAttr (.ref a) f b) (EP X pins σ Q) X.xe s := by
  obtain ⟨sl, od, _, J, _⟩ := SlX.slt_inst I h
  obtain ⟨rest, hrec⟩ := rc
  have I1 : Inv X pins σ H { s with toks := s.toks + 1 } := I.tok (s.toks + 1)
  refine PySem.W.get_bind I.kIn J (PySem.W.plainGet_of (c.get f)).1 (PySem.W.findObj_data c.ic at_ get tk) (PySem.W.plainGet_of (c.get f)).2 (wpAny_call (PySem.W.prop_get (s := { s with toks := s.toks + 1 }) I.kIn hrec ?_))
  refine codeAny_mono (F X.A.in1 X.stack { s with toks := s.toks + 1 } H [.ref a] [.ref a] Q E ⟨hr.r.in1, hr.gd⟩ I1.env0.in1 (.cons rfl .nil) q) fun r s' hq => ?_
  cases r with
  | error e => exact (hx _ _ _ _ hq).elim
  | ok fl =>
    cases fl with
    | ret u =>
      obtain ⟨v, H', I2, rv, q⟩ := I1.after hq
      exact wpAny_of_eq (PySem.W.handedOut_of (handed_of rv)) ⟨v, H', I2, rv, q⟩
    | next => exact False.elim hq
    | brk => exact False.elim hq
    | cont => exact False.elim hq
section
variable {X : Cx} {F : Fx} {E : L2.St → XK} {f g h : Env → Store → Res Val} {fs : Env → Store → Res (List Val)} {a b c e o : Expr} {es : List Expr} {pos p apos cpos : Pos} {x name : Str}
theorem ge_att (hK : X.K = F.K) {P : Pg} {i n : Nat} {cl : Nat → List Val → Store → Res Val} (k : AttOk F P x i) (Fn : ∀ j, j < F.nf → FnS X F n (F.fa j) (cl j)) (hr : Room (n + 1) X.A) (he : PE X e (TEv F E f)) (hb : attributeBase e x X.env (eval e X.env) = eval e X.env) :
    PE X (.Attribute e x pos) (TEv F E fun ρ O => (f ρ O).bind fun v O1 => match attOf P O1 v i with
      | some (.inl u) => .ok u O1
      | some (.inr g) => noX (cl g [v] O1)
      | none => .bad) := by
  refine ⟨fun pins st σ H Q I ⟨w, ρ, O, s, r, z⟩ => ?_⟩
  refine attr_of hb (thn (he.run pins st σ H (fun y H1 => ∃ w1 O1 v, SOk F w1 O1 H1 ∧ Rp F w1 O1.length H1 v y ∧ Pst F w1 O1 H1 (match attOf P O1 v i with
      | some (.inl u) => Res.ok u O1
      | some (.inr g) => noX (cl g [v] O1)
      | none => .bad) (RE F Q) (E σ)) I (TEv.go s r z fun v w1 O1 H1 y s1 r1 l1 ry z1 => ⟨w1, O1, v, s1, ry, z1⟩)) fun u s1 ⟨y, H1, I1, ry, w1, O1, v, sk, rv, z1⟩ => ?_)
  split at z1
  · rename_i r0 u0 ha
    unfold attOf at ha
    split at ha
    · split at ha
      · rename_i c fs0 kc hk
        split at ha
        · rename_i j hj
          split at ha
          · rename_i u1 hu
            cases ha
            obtain ⟨q, dx, vs, xs, e1, _, _, e2, e3, e4⟩ := rv
            subst e1
            cases ry
            obtain ⟨x', h1, h2⟩ := e3.get hu
            obtain ⟨pd, hs⟩ := k.slot _ _ j hk hj
            exact SlX.getslot_ok I1 e2 (by rw [hK]; exact k.cls _ _ hk) (by rw [hK]; exact hs) (e4 j x' h1) fun u' s' I' ru => ⟨x', H1, I', ru, z1.here sk x' h2⟩
          · cases ha
        · cases ha
        · cases ha
      · cases ha
    · rename_i j
      split at ha
      · rename_i c fs0 hj
        split at ha
        · rename_i kc hk
          split at ha
          · rename_i m hm
            split at ha
            · rename_i u1 hu
              cases ha
              obtain ⟨_, _, vs, e2, e4⟩ := sk.cell j _ hj
              obtain ⟨x', h1, h2⟩ := e4 m _ hu
              obtain ⟨pd, hs⟩ := k.slot _ _ m hk hm
              have ey := rv.2
              subst ey
              cases ry
              exact SlX.getslot_ok I1 e2 (by rw [hK]; exact k.cls _ _ hk) (by rw [hK]; exact hs) h1 fun u' s' I' ru => ⟨x', H1, I', ru, z1.here sk x' h2⟩
            · cases ha
          · cases ha
        · cases ha
      · cases ha
    · cases ha
  · rename_i r0 g0 ha
    unfold attOf at ha
    split at ha
    · split at ha
      · rename_i c fs0 kc hk
        split at ha
        · split at ha <;> cases ha
        · rename_i g1 hg1
          cases ha
          obtain ⟨hg, ⟨pd, p1, p2, p3, p4⟩⟩ := k.prop _ _ _ hk hg1
          obtain ⟨q, dx, vs, xs, e1, h1, h2, e2, e3, e4⟩ := id rv
          subst e1
          cases ry
          exact getprop_sl (E := fun _ _ _ => False) I1 e2 (by rw [hK]; exact k.cls _ _ hk) (by rw [hK]; exact p1) (by rw [hK]; exact p2) (by rw [hK]; exact p3) (by rw [hK]; exact p4) (Fn g0 hg) hr
            (fun _ _ _ _ z => by obtain ⟨_, _, _, _, _, _, _, _, _, _, _, _, z⟩ := z; exact z) ⟨w1, O1, [_], sk, RpL.one rv, Pst.noX z1⟩
        · cases ha
      · cases ha
    · split at ha
      · split at ha
        · split at ha
          · split at ha <;> cases ha
          · cases ha
        · cases ha
      · cases ha
    · cases ha
  · exact z1.elim

/-! ### C(..) -/
theorem run_makeP {C : Addr} {q : Addr} {W : WX} {k : Nat} {sp : Sp} {pins : List (Addr × Obj)} {σ : L2.St} {H : Hp} {s : Shared} {Q : VK} {us : List Value} {vs : List V} (M : Mk X.K C q) (Fn : FnR X.prog X.w X.K X.mg X.base (L2.CX X.prog X.w) k q sp) (hr : Room (k + 1) X.A) (tk : Takes X W) (I : Inv X pins σ H s) (r : Vals vs us)
    (h : ∀ x dx, H x = Option.none → H dx = Option.none → dx ≠ x → sp (V.ref x :: vs) (upd (upd H dx (.own x)) x (.ins C dx [])) (fun v H2 => v = .non ∧ Q (.ref x) H2) (WE W σ)) :
    wpAny (model X.prog X.w) X.A (call (.ref C) us) (EP X pins σ Q) X.xe s := by
  have hq := h (s.heap.objs.size + 1) s.heap.objs.size (I.hok.fresh (Nat.le_succ _)) (I.hok.fresh (Nat.le_refl _)) (Nat.ne_of_lt (Nat.lt_succ_self _))
  have I2 := Inv.made (C := C) I
  have r2 : Vals (V.ref (s.heap.objs.size + 1) :: vs) (Value.ref (s.heap.objs.size + 1) :: us) := .cons rfl r
  refine wpAny_call (make_map (f := q) I.kIn M.makes M.init (beq_iff_eq.mp M.fn) (codeAny_mono (Fn _ X.stack _ _ (Value.ref (s.heap.objs.size + 1) :: us) _ _ (WE W σ) (hr.make C us []) (I2.env0.make C us []) r2 hq) fun r s' hq' => ?_))
  cases r with
  | error e => exact passAt tk σ pins _ _ e s' I2 hq'
  | ok fl =>
    cases fl with
    | ret u =>
      obtain ⟨v, H', I3, rv, ev, q3⟩ := I2.after hq'
      subst ev
      exact ⟨rv, ⟨V.ref (s.heap.objs.size + 1), H', I3, rfl, q3⟩⟩
    | next => exact False.elim hq'
    | brk => exact False.elim hq'
    | cont => exact False.elim hq'
theorem ge_mk {P : Pg} {ci : Nat} {kc : Cls} {W : WX} {k : Nat} {cl : Nat → List Val → Store → Res Val} (hk : P.cls[ci]? = some kc) (M : Mk X.K (F.ca ci) (F.fa kc.init)) (Fn : FnS X F k (F.fa kc.init) (cl kc.init)) (hr : Room (k + 1) X.A) (hg : Gl X x) (hm : X.mg x = some (.ref (F.ca ci))) (tk : Takes X W)
    (ha : PA X (e :: es) (TAv F (WE W) fs)) (hdb : (x == ("__debug__" : Str)) = false) (he : starEach (e :: es) X.env = (false, eval e X.env) :: starEach es X.env) (hpl : (backTo pos (starEach es X.env)).any (·.1) = false) :
    PE X (.Call (.Name x p) (e :: es) [] pos) (TEv F (WE W) fun ρ O => (fs ρ O).bind fun vs O1 => match P.cls[ci]? with
      | some kc => (cl kc.init (.own O1.length :: vs) (O1 ++ [.ins ci (List.replicate kc.n none)])).bind fun v O2 => match v with
        | .non => ofO2 (Mn.made O1.length O2)
        | _ => .bad
      | none => .bad) := by
  refine ⟨fun pins st σ H Q I ⟨w, ρ, O, s, r, z⟩ => ?_⟩
  refine wpAny_Call_Name_kw (ld_glob I hg hm ?_ hdb)
  refine PySem.W.callWith_K (h₀ := X.base) I.ok.mod.kin M.kp (thn (ha.run pos pins st σ H (fun xs H1 => ∃ w1 O1 vs, SOk F w1 O1 H1 ∧ RpL F w1 O1.length H1 vs xs ∧ Pst F w1 O1 H1 (match P.cls[ci]? with
      | some kc => (cl kc.init (.own O1.length :: vs) (O1 ++ [.ins ci (List.replicate kc.n none)])).bind fun v O2 => match v with
        | .non => ofO2 (Mn.made O1.length O2)
        | _ => Res.bad
      | none => Res.bad) (RE F Q) (WE W σ)) I (TAv.go s r z fun vs w1 O1 H1 xs s1 r1 l1 rx z1 => ⟨w1, O1, vs, s1, rx, z1⟩)) fun us s1 ⟨xs, H1, I1, r1, w1, O1, vs, sk, rx, z1⟩ => ⟨I1.kIn, ?_⟩) he hpl
  rw [hk] at z1
  dsimp only at z1
  refine run_makeP M Fn hr tk I1 r1 fun y dx hy hdx ne => ?_
  obtain ⟨s2, l2⟩ := sk.made0 (c := ci) (m := kc.n) hy hdx ne
  have rvs : RpL F (w1.new O1.length y dx) (O1 ++ [Cell.ins ci (List.replicate kc.n none)]).length (upd (upd H1 dx (.own y)) y (.ins (F.ca ci) dx [])) (.own O1.length :: vs) (V.ref y :: xs) :=
    ⟨V.ref y, xs, rfl, ⟨by rw [List.length_append]; exact Nat.lt_succ_self _, by simp⟩, rx.le sk l2⟩
  refine ⟨_, _, _, s2, rvs, z1.bind0.after l2 |>.imp fun v w3 O3 H3 s3 l3 z3 v' rv => ?_⟩
  split at z3
  · refine ⟨rv, ?_⟩
    cases hm : Mn.made O1.length O3 with
    | none => rw [hm] at z3; exact z3.elim
    | some q =>
      obtain ⟨ov, O4⟩ := q
      rw [hm] at z3
      obtain ⟨w4, s4, l4, r4⟩ := s3.made hm (l2.trans l3) rfl
      have had : w3.ad O1.length = y := by
        have := (l3.ad O1.length (by rw [List.length_append]; exact Nat.lt_succ_self _)).1
        rw [this]
        simp
      rw [had] at r4
      exact z3 w4 H3 s4 l4 _ r4
  · exact z3.elim

/-! ### methods of lists -/
theorem type_append : typeOf (.builtin "list.append") = pure (.type "method_descriptor") := by show builtinType _ = _; rw [builtinType_eq_fast]; kernel_rfl
theorem type_pop : typeOf (.builtin "list.pop") = pure (.type "method_descriptor") := by show builtinType _ = _; rw [builtinType_eq_fast]; kernel_rfl
theorem type_extend : typeOf (.builtin "list.extend") = pure (.type "method_descriptor") := by show builtinType _ = _; rw [builtinType_eq_fast]; kernel_rfl
def rMthV (F : Fx) (m : Mth) (fz : Bool) : V → List V → Hp → VK → Prop := fun x xs H Q => ∃ w O o vs v O', SOk F w O H ∧ Rp F w O.length H o x ∧ RpL F w O.length H vs xs ∧ mthV m fz o vs O = some (v, O') ∧
  ∀ w' H' x', SOk F w' O' H' → Le w O H w' O' H' → Rp F w' O'.length H' v x' → Q x' H'
theorem RpL.dropLast {w : Wd} {n : Nat} {H : Hp} {l : List Val} {xs : List V} (r : RpL F w n H l xs) : RpL F w n H l.dropLast xs.dropLast := by
  rw [List.dropLast_eq_take, List.dropLast_eq_take, ← r.length]
  exact r.take _
theorem RpL.eraseIdx {w : Wd} {n : Nat} {H : Hp} : ∀ {l : List Val} {xs : List V} (i : Nat), RpL F w n H l xs → RpL F w n H (l.eraseIdx i) (xs.eraseIdx i)
  | [], xs, i, h => by rw [show xs = [] from h]; rfl
  | v :: r, xs, 0, h => by
    obtain ⟨x, t, e, q, s⟩ := h
    subst e
    exact s
  | v :: r, xs, i + 1, h => by
    obtain ⟨x, t, e, q, s⟩ := h
    subst e
    exact ⟨x, t.eraseIdx i, rfl, q, RpL.eraseIdx i s⟩
theorem Rp.live {w : Wd} {O : Store} {H : Hp} {o : Val} {x : V} {k : Nat} {l : List Val} (s : SOk F w O H) (r : Rp F w O.length H o x) (e : liveOf O o = some (k, l)) : O[k]? = some (.lst true l) ∧ x = .ref (w.ad k) ∧ ∃ xs, H (w.ad k) = some (.lst xs) ∧ RpL F w O.length H l xs := by
  obtain ⟨rfl, hk⟩ := liveOf_eq e
  exact ⟨hk, r.2, s.cell k _ hk⟩
theorem mt_app (hK : X.K = F.K) {fz : Bool} : MtM X "list.append" (rMthV F .append fz) := by
  intro pins s σ H x xs v us Q I rx rxs ⟨w, O, o, vs, r, O', sk, ro, rv, e, q⟩
  unfold mthV at e
  split at e
  all_goals first | contradiction | skip
  obtain ⟨y, rfl, ry⟩ := rv.of1
  split at e
  · rename_i v' O1 hE
    obtain ⟨w1, s1, l1, ry1⟩ := emb_step sk ry hE
    split at e
    · rename_i k l hl
      split at e
      · rename_i hz
        cases e
        obtain ⟨hk, ex, zs, hH, rl⟩ := (ro.le sk l1).live s1 hl
        obtain ⟨s2, l2⟩ := s1.write (xs' := zs ++ [y]) hk (rl.append (RpL.one ry1))
        have hs := smallLen_le hz
        have hl := rl.length
        exact mt_append pins s σ H x _ v us Q I rx rxs ⟨_, zs, y, ex, rfl, hH, by omega, q _ _ _ s2 (l1.trans l2) rfl⟩
      · cases e
    · cases e
  · cases e
theorem mt_ext (hK : X.K = F.K) {fz : Bool} : MtM X "list.extend" (rMthV F .extend fz) := by
  intro pins s σ H x xs v us Q I rx rxs ⟨w, O, o, vs, r, O', sk, ro, rv, e, q⟩
  unfold mthV at e
  split at e
  all_goals first | contradiction | skip
  obtain ⟨y, rfl, ry⟩ := rv.of1
  split at e
  · rename_i k l hl
    split at e
    · rename_i m hm
      split at e
      · rename_i hz
        cases e
        obtain ⟨hk, ex, zs, hH, rl⟩ := ro.live sk hl
        obtain ⟨p1, ys, rfl, h2, h3⟩ := ry.listOf sk hm
        obtain ⟨s2, l2⟩ := sk.write (xs' := zs ++ ys) hk (rl.append h3)
        have hs := smallLen_le hz
        have hl := rl.length
        have hl2 := h3.length
        exact mt_extend pins s σ H x _ v us Q I rx rxs ⟨_, p1, zs, ys, ex, rfl, hH, h2, by omega, q _ _ _ s2 l2 rfl⟩
      · cases e
    · cases e
  · cases e
theorem mt_pops (hK : X.K = F.K) {fz : Bool} : MtM X "list.pop" (rMthV F .pop fz) := by
  intro pins s σ H x xs v us Q I rx rxs ⟨w, O, o, vs, r, O', sk, ro, rv, e, q⟩
  unfold mthV at e
  split at e
  all_goals first | contradiction | skip
  · have hx : xs = [] := rv
    subst hx
    split at e
    · rename_i k l hl
      split at e
      · rename_i u hu
        cases e
        obtain ⟨hk, ex, zs, hH, rl⟩ := ro.live sk hl
        obtain ⟨y, h1, h2⟩ := rl.get hu
        obtain ⟨s2, l2⟩ := sk.write (xs' := zs.dropLast) hk rl.dropLast
        rw [rl.length] at h1
        exact mt_pop pins s σ H x _ v us Q I rx rxs ⟨_, zs, y, ex, rfl, hH, h1, q _ _ _ s2 l2 (h2.le sk l2)⟩
      · cases e
    · cases e
  · obtain ⟨y, rfl, ry⟩ := rv.of1
    split at e
    · rename_i k l hl
      split at e
      · rename_i j hj
        split at e
        · rename_i u hu
          cases e
          obtain ⟨hk, ex, zs, hH, rl⟩ := ro.live sk hl
          obtain ⟨y', h1, h2⟩ := rl.get hu
          obtain ⟨s2, l2⟩ := sk.write (xs' := zs.eraseIdx j) hk (rl.eraseIdx j)
          rw [rl.length] at hj
          obtain ⟨g1, g2, g3, g4⟩ := ixN_seq hj
          have hz : zs.length ≤ sizeLine := by
            have := I.hok _ _ hH
            exact this.1
          have h63 := line63
          exact mt_popAt pins s σ H x _ v us Q I rx rxs ⟨_, zs, _, j, y', ex, by rw [show y = .int _ from ry], hH, by omega, by omega, g1, h1, q _ _ _ s2 l2 (h2.le sk l2)⟩
        · cases e
      · cases e
    · cases e
def Mth.id : Mth → String
  | .append => "list.append" | .pop => "list.pop" | .extend => "list.extend"
def Mth.nm : Mth → Str
  | .append => "append" | .pop => "pop" | .extend => "extend"
theorem mt_all (hK : X.K = F.K) {fz : Bool} (m : Mth) : MtM X m.id (rMthV F m fz) := by
  cases m with
  | append => exact mt_app hK
  | pop => exact mt_pops hK
  | extend => exact mt_ext hK
theorem Mth.slot (m : Mth) : Slot "list" m.nm m.id := by
  cases m with
  | append => exact F.slot_list_append
  | pop => exact F.slot_list_pop
  | extend => exact F.slot_list_extend
theorem Mth.ty (m : Mth) : typeOf (.builtin m.id) = pure (.type "method_descriptor") := by
  cases m with
  | append => exact type_append
  | pop => exact type_pop
  | extend => exact type_extend
theorem mth_imp {kp : Bool} {m : Mth} {fz : Bool} {w : Wd} {ρ : Env} {O : Store} {σ : L2.St} {H : Hp} {Q : VK} (hK : X.K = F.K) (s : SOk F w O H) (r : ROk F w O.length H ρ σ) (z : Pst F w O H ((f ρ O).bind fun x O1 => match listOf O1 x with
      | some _ => (fs ρ O1).bind fun vs O2 => ofO2 (mthV m fz x vs O2)
      | none => .bad) (RE F Q) (E σ)) : TEv F E f σ H fun x H1 => tyV X.K "list" x H1 ∧ TAv F E fs σ H1 fun xs H2 => rMthV F m fz x xs H2 Q :=
  TEv.go s r z fun v w1 O1 H1 x s1 r1 l1 rx z1 => by
    split at z1
    · rename_i l hl
      obtain ⟨q, xs, e1, e2, _⟩ := rx.listOf s1 hl
      refine ⟨by rw [e1]; exact .inl ⟨rfl, xs, .of e2⟩, TAv.go s1 r1 z1 fun vs w2 O2 H2 ys s2 r2 l2 ry z2 => ?_⟩
      cases e : mthV m fz v vs O2 with
      | none => rw [e] at z2; exact z2.elim
      | some p =>
        obtain ⟨u, O3⟩ := p
        rw [e] at z2
        exact ⟨w2, O2, v, vs, u, O3, s2, rx.le s1 l2, ry, e, fun w' H' x' s' l' rx' => z2 w' H' s' l' x' rx'⟩
    · exact z1.elim
theorem ge_mth (hK : X.K = F.K) {m : Mth} {fz : Bool} (ho : PE X o (TEv F E f)) (ha : PA X (e :: es) (TAv F E fs))
    (hbase : attributeBase o m.nm X.env (eval o X.env) = eval o X.env)
    (hfew : ((backTo cpos (starEach (e :: es) X.env)).all (fun x => !x.1) && (backToKw cpos (keywordEach [] X.env)).all (fun x => x.1.isSome)
      && decide ((e :: es).length + ([] : List Keyword).length + (if ([] : List Keyword).isEmpty then 0 else 1) < 30)) = true)
    (hline : (apos.endLine == cpos.line) = true) (hs : starEach (e :: es) X.env = (false, eval e X.env) :: starEach es X.env) (hplain : (backTo cpos (starEach es X.env)).any (·.1) = false) :
    PE X (.Call (.Attribute o m.nm apos) (e :: es) [] cpos) (TEv F E fun ρ O => (f ρ O).bind fun x O1 => match listOf O1 x with
      | some _ => (fs ρ O1).bind fun vs O2 => ofO2 (mthV m fz x vs O2)
      | none => .bad) :=
  (pe_bm PySem.F.plainAttrs_list m.slot m.ty (mt_all (F := F) hK m (fz := fz)) ho ha hbase hfew hline hs hplain).imp fun σ H Q ⟨w, ρ, O, s, r, z⟩ => mth_imp (kp := true) hK s r z
theorem ge_mth0 (hK : X.K = F.K) {m : Mth} {fz : Bool} (ho : PE X o (TEv F E f)) (hbase : attributeBase o m.nm X.env (eval o X.env) = eval o X.env) (hline : (apos.endLine == cpos.line) = true) :
    PE X (.Call (.Attribute o m.nm apos) [] [] cpos) (TEv F E fun ρ O => (f ρ O).bind fun x O1 => match listOf O1 x with
      | some _ => (Res.ok ([] : List Val) O1).bind fun vs O2 => ofO2 (mthV m fz x vs O2)
      | none => .bad) :=
  (pe_bm0 PySem.F.plainAttrs_list m.slot m.ty (mt_all (F := F) hK m (fz := fz)) ho hbase hline).imp fun σ H Q ⟨w, ρ, O, s, r, z⟩ => by
    have := mth_imp (X := X) (fs := fun _ O => .ok [] O) (kp := true) hK s r z
    obtain ⟨w1, ρ1, O1, s1, r1, z1⟩ := this
    refine ⟨w1, ρ1, O1, s1, r1, z1.imp fun v w' O' H' s' l' q x rx => ?_⟩
    obtain ⟨q1, w2, ρ2, O2, s2, r2, z2⟩ := q x rx
    exact ⟨q1, z2.here s2 [] rfl⟩
end
end Mn
end

section
set_option Elab.async false
set_option linter.all false
set_option maxRecDepth 100000
set_option maxHeartbeats 4000000
/-! M2h: enumerate and zip over lists and tuples of any mix (HandS.Iter's turn_enum, turn_zip by KE's Draws). -/
namespace Mn
open PySem PySem.Spec PyProof.Rows L2

/-- a list (true) or a tuple -/
def SqB (K : PySem.W.Frag) (b : Bool) (H : Hp) (a : Addr) (xs : List V) : Prop := match b with
  | true => SqL K H a xs
  | false => SqT K H a xs
def ItB (b : Bool) (h : Heap) (it a : Addr) (i : Nat) : Prop := match b with
  | true => h.IsListIter it a i
  | false => h.IsTupleIter it a i
def OfB (b : Bool) (h : Heap) (a : Addr) (its : Array Value) : Prop := match b with
  | true => h.IsList a its
  | false => h.IsTuple a its
theorem ItB.at {b : Bool} {h h' : Heap} {it a : Addr} {i : Nat} (x : ItB b h it a i) (e : ∀ o, h.get? it = some o → h'.get? it = some o) : ItB b h' it a i := by
  cases b with
  | true => exact Heap.IsListIter.at x e
  | false => exact Heap.IsTupleIter.at x e
theorem ItB.obj {b : Bool} {h : Heap} {it a : Addr} {i : Nat} (x : ItB b h it a i) : ∃ o vs n, h.get? it = some o ∧ o.data = .fields vs ∧ o.cls = .type n ∧ n ≠ "list" ∧ n ≠ "tuple" := by
  cases b with
  | true => obtain ⟨o, e, c, d⟩ := x; exact ⟨o, _, _, e, d, c, by decide, by decide⟩
  | false => obtain ⟨o, e, c, d⟩ := x; exact ⟨o, _, _, e, d, c, by decide, by decide⟩
theorem OfB.obj {b : Bool} {h : Heap} {a : Addr} {its : Array Value} (x : OfB b h a its) : ∃ o n, h.get? a = some o ∧ o.cls = .type n ∧ (n = "list" ∨ n = "tuple") := by
  cases b with
  | true => obtain ⟨o, e, c, _⟩ := x; exact ⟨o, _, e, c, .inl rfl⟩
  | false => obtain ⟨o, e, c, _⟩ := x; exact ⟨o, _, e, c, .inr rfl⟩
theorem ItB.ne {b c : Bool} {h : Heap} {it a a' : Addr} {i : Nat} {its : Array Value} (x : ItB b h it a i) (y : OfB c h a' its) : a' ≠ it := fun e => by
  obtain ⟨o, vs, n, e1, _, e2, n1, n2⟩ := x.obj
  obtain ⟨o', n', e3, e4, h⟩ := y.obj
  rw [e, e1] at e3
  cases e3
  rw [e2] at e4
  cases e4
  rcases h with h | h
  · exact n1 h
  · exact n2 h
section
variable {X : Cx} {pins : List (Addr × Obj)} {σ : L2.St} {H : Hp} {s : Shared} {a it : Addr} {xs ys : List V} {b : Bool}
theorem Inv.seqB (I : Inv X pins σ H s) (h : SqB X.K b H a xs) : ∃ its : List Value, Vals xs its ∧ OfB b s.heap a its.toArray := by
  cases b with
  | true => obtain ⟨its, r, p, _⟩ := I.list h; exact ⟨its, r, p.isList⟩
  | false => obtain ⟨its, r, p, _⟩ := I.tuple h; exact ⟨its, r, p⟩
theorem Inv.seqB_inj (I : Inv X pins σ H s) (h : SqB X.K b H a xs) (h' : SqB X.K b H a ys) : xs = ys := by
  cases b with
  | true => exact I.list_inj h h'
  | false => exact I.tuple_inj h h'
end
theorem drawsB {prog : Program} {w : World} {A : Around} (hh : A.handled = none) (b : Bool) (it a : Addr) (hne : a ≠ it) (its : Array Value) :
    Draws prog w A it [it, a] its.size (fun i v => its[i]? = some v) (fun i h => ItB b h it a i ∧ OfB b h a its) := by
  cases b with
  | true => exact Draws.list hh it a hne its
  | false => exact Draws.tuple hh it a hne its
theorem beginsB (b : Bool) (a : Addr) (its : Array Value) : ∃ o, Begins (.ref a) o (fun h => OfB b h a its) ∧ ∀ (h : Heap) (it : Addr), h.get? it = some o → ItB b h it a 0 := by
  cases b with
  | true => exact ⟨_, begins_list a its, fun h it e => ⟨_, e, rfl, rfl⟩⟩
  | false => exact ⟨_, begins_tuple a its, fun h it e => ⟨_, e, rfl, rfl⟩⟩

/-! ### enumerate -/
def IteB (K : PySem.W.Frag) (b : Bool) (a : Addr) : L2.It :=
  ⟨fun i H => ∃ (xs : List V) (x : V), SqB K b H a xs ∧ xs[i]? = some x, fun i H v H' => ∃ T x, v = .ref T ∧ H T = none ∧ H' = upd H T (.tup [.int (i : Nat), x]) ∧ ∀ xs, SqB K b H a xs → xs[i]? = some x, fun i H => ∃ xs : List V, SqB K b H a xs ∧ xs.length = i⟩
theorem turn_enumB {P : Program} {w : World} {K : PySem.W.Frag} {elts : List Expr} {kk : Nat} {tpos : Pos} (b : Bool) (a e it : Addr) :
    Turn P w K (.Tuple elts kk tpos) (IteB K b a) [e, it] e (fun i h => (∃ old, IsEnum h e it ((i : Nat) : Int) old) ∧ ItB b h it a i ∧ e ≠ it) where
  mem := by simp
  obj := fun i h st c hc => by
    obtain ⟨⟨old, he⟩, hi, _⟩ := st
    obtain ⟨o, vs, n, e1, e2, _⟩ := hi.obj
    have e' : c = e ∨ c = it := by simpa using hc
    rcases e' with z | z
    · rw [z]; exact ⟨_, he, fun v q => nomatch q⟩
    · rw [z]; exact ⟨o, e1, fun v q => by rw [e2] at q; cases q⟩
  keep := fun i h h' st k => let ⟨⟨old, he⟩, hi, hne⟩ := st; ⟨⟨old, k e (by simp) _ he⟩, hi.at fun o q => k it (by simp) o q, hne⟩
  item := by
    intro X hP hw hK hc i pins s σ H E I hf st hg
    subst hP hw hK
    obtain ⟨⟨old, he⟩, hit, hne⟩ := st
    obtain ⟨xs, x, hq, hx⟩ := hg
    obtain ⟨its, rv, p⟩ := Inv.seqB I hq
    obtain ⟨u, hu, ru⟩ := rv.get hx
    have hel : e < s.heap.objs.size := Heap.lt_size he
    have hil : it < s.heap.objs.size := by obtain ⟨_, _, _, q, _⟩ := hit.obj; exact Heap.lt_size q
    have hae : a ≠ e := fun z => by
      obtain ⟨o, n, e1, e2, h⟩ := p.obj
      rw [z, he] at e1
      cases e1
      cases e2
      rcases h with h | h <;> exact absurd h (by decide)
    have D := drawsB (prog := X.prog) (w := X.w) (A := X.A.in1) (I.ok.hd hc) b it a (hit.ne p) its.toArray
    have hlt : i < its.toArray.size := by
      have := (List.getElem?_eq_some_iff.mp hu).1
      simpa using this
    refine wpAny_pyNext_enum_itemD D he ⟨hit, p⟩ hlt hne (by simp [hne, hae.symm]) fun v h' tk hv ho hst hT hsz hk => ?_
    have hvu : v = u := by
      have : its[i]? = some v := by simpa using hv
      rw [hu] at this
      exact (Option.some.inj this).symm
    subst hvu
    refine ⟨_, rfl, wpAny_letOwnedTupleGo_enum (s := { s with heap := h', toks := tk + 1 }) ho fun h'' he' sb => ?_⟩
    have hT2 : h''.get? s.heap.objs.size = some { cls := .type "tuple", data := .seq #[.int i tk, v] } := (sb.2 _ (Nat.ne_of_gt hel)).trans hT
    have new : ObjOk X.prog X.w (upd H s.heap.objs.size (.tup [.int (i : Nat), x])) h'' s.heap.objs.size (.tup [.int (i : Nat), x]) :=
      ⟨by show 2 ≤ sizeLine; decide, [.int i tk, v], .cons ⟨_, rfl⟩ (.cons ru .nil), ⟨_, hT2, rfl, _, rfl⟩⟩
    have I1 : Inv X pins σ (upd H s.heap.objs.size (.tup [.int (i : Nat), x])) { s with heap := h'', toks := tk + 1 } :=
      I.turnedNew (ch := [e, it]) (fun c ob hb q => (sb.2 c (fun z => hb (by simp [z]))).trans (hk c ob (fun z => hb (by simp [z])) (fun z => hb (by simp [z])) q)) hf (Nat.le_refl _) new
    refine ⟨.ref s.heap.objs.size, _, I1, rfl, ⟨_, x, rfl, I.hok.fresh (Nat.le_refl _), rfl, fun ys hy => by rw [Inv.seqB_inj I hy hq]; exact hx⟩, ⟨⟨v, ?_⟩, hst.1.at fun o q => (sb.2 it (Ne.symm hne)).trans q, hne⟩, fun c hb => ?_⟩
    · have e1 : ((i + 1 : Nat) : Int) = (i : Int) + 1 := by omega
      rw [e1]; exact he'
    · have hb' : c < s.heap.objs.size := by
        have e' : c = e ∨ c = it := by simpa using hb
        rcases e' with z | z
        · rw [z]; exact hel
        · rw [z]; exact hil
      rw [upd_ne (Nat.ne_of_lt hb')]
      exact (hf c hb).1
  done := by
    intro X hP hw hK hc i pins s σ H E I hf st hg
    subst hP hw hK
    obtain ⟨⟨old, he⟩, hit, hne⟩ := st
    obtain ⟨xs, hq, hx⟩ := hg
    obtain ⟨its, rv, p⟩ := Inv.seqB I hq
    obtain ⟨f0, f1, f2, f3, f4, f5⟩ := hf it (by simp)
    have hl := rv.length
    have D := drawsB (prog := X.prog) (w := X.w) (A := X.A.in1) (I.ok.hd hc) b it a (hit.ne p) its.toArray
    have hi : i = its.toArray.size := by simp; omega
    refine wpAny_pyNext_enum_endD D he (by rw [← hi]; exact ⟨hit, p⟩) fun h' eb => ⟨rfl, I.turned (t' := s.toks) (fun c o hb q => eb c o hb q) f0 f1 f3 f4 f5⟩
  self := fun A i s Q E st h => let ⟨⟨_, he⟩, _⟩ := st; wpAny_pyIter_enum he h
theorem meets_enumerate_newB1 {v : Value} {o : Obj} {H : Heap → Prop} (B : Begins v o H) :
    Meets (Builtin.«enumerate.__new__» ⟨[.type "enumerate", v], []⟩) (fun _ R s => H s.heap ∧
      R (.ok (.ret (.ref (s.heap.push o).objs.size))) { s with heap := (s.heap.push o).push { cls := .type "enumerate", data := .fields #[.none, .bool false, .ref s.heap.objs.size, rawInt 0, .none, .none] } }) :=
  .of_wp fun prog w A R s h => by
    obtain ⟨hp, g, d, tk, os⟩ := s; obtain ⟨h1, h⟩ := h
    have hsub := sub_enumerate
    have q1 : ∀ {A' : Around} {E : Value → Shared → Prop} {Q : Value → Shared → Prop}, Q (.ref hp.objs.size) ⟨hp.push o, g, d, tk, os⟩ → wpAny (model prog w) A' (pyIter v) Q E ⟨hp, g, d, tk, os⟩ :=
      fun q => B.iter prog w _ _ ⟨hp, g, d, tk, os⟩ _ h1 q
    wp_walk using q1
    refine wpAny_stack_any fun st => wpAny_pure ?_
    split
    · rename_i c _ _ _ _ _
      cases (c == Value.type "enumerate")
      · wp_walk using q1
        exact ⟨_, rfl, h⟩
      · wp_walk using q1
        exact ⟨_, rfl, h⟩
    · wp_walk using q1
      exact ⟨_, rfl, h⟩

theorem enum_begins1 {prog : Program} {w : World} {A : Around} {E : Value → Shared → Prop} {s : Shared} {v : Value} {o : Obj} {H : Heap → Prop} {Q : Value → Shared → Prop} (B : Begins v o H) (h1 : H s.heap)
    (h : ∀ h', IsEnum h' (s.heap.objs.size + 1) s.heap.objs.size 0 .none → h'.get? s.heap.objs.size = some o → h'.objs.size = s.heap.objs.size + 2 →
      (∀ b o, s.heap.get? b = some o → h'.get? b = some o) → Q (.ref (s.heap.objs.size + 1)) { s with heap := h' }) :
    wpAny (model prog w) A (call (.type "enumerate") [v]) Q E s := by
  refine callType_new F.called_enumerate (by decide) (F.typeCall_enumerate_1 _) (F.newCall_enumerate_1 _) (fun obj => F.args_object_init_2 obj _) F.entry_enumerate_new
    (meets_enumerate_newB1 B) ⟨h1, ?_⟩
  have hz : (s.heap.push o).objs.size = s.heap.objs.size + 1 := Heap.size_push ..
  show _ ∧ _
  rw [hz]
  have he : IsEnum ((s.heap.push o).push { cls := .type "enumerate", data := .fields #[.none, .bool false, .ref s.heap.objs.size, rawInt 0, .none, .none] }) (s.heap.objs.size + 1) s.heap.objs.size 0 .none := by
    have := Heap.get?_push_size (s.heap.push o) (o := { cls := .type "enumerate", data := .fields #[.none, .bool false, .ref s.heap.objs.size, rawInt 0, .none, .none] }) rfl
    rw [hz] at this; exact this
  refine ⟨⟨_, he, rfl⟩, h _ he (Heap.get?_push_of_some _ (Heap.get?_push_size _ B.free)) (by rw [Heap.size_push, hz]) fun b o x => Heap.get?_push_of_some _ (Heap.get?_push_of_some _ x)⟩
def iEnumB (K : PySem.W.Frag) (ta : TA) : TI := fun σ H R => ta σ H fun vs H1 => ∃ b a xs, vs = [.ref a] ∧ SqB K b H1 a xs ∧ R (IteB K b a) H1
theorem pi_enumB {X : Cx} {e : Expr} {ta : TA} {p pos tpos : Pos} {elts : List Expr} {kk : Nat} (hg : Gl X "enumerate") (hm : X.mg "enumerate" = none) (ha : PA X [e] ta) (hs : starEach [e] X.env = [(false, eval e X.env)]) :
    PI X (.Tuple elts kk tpos) (.Call (.Name "enumerate" p) [e] [] pos) (iEnumB X.K ta) := by
  refine ⟨fun pins s σ H R I h => ?_⟩
  refine Call_ (ld_blt I hg hm boot_enumerate (PyProof.Rows.callWith_type1 (thn (ha.run pos pins s σ H _ I h) fun us s1 ⟨vs, H1, I1, r1, q1⟩ => ?_) hs rfl))
  obtain ⟨b, a, xs, ex, hq, q⟩ := q1
  subst ex
  cases r1 with
  | cons r rr =>
    cases rr
    cases r
    obtain ⟨its, rv, p'⟩ := Inv.seqB I1 hq
    obtain ⟨o, B, hB⟩ := beginsB b a its.toArray
    refine enum_begins1 B p' fun h' he hit hsz hk => wpAny_pyIter_enum he ?_
    have I2 : Inv X pins σ H1 { s1 with heap := h' } := I1.kept (t' := s1.toks) hk
    refine ⟨s1.heap.objs.size + 1, [s1.heap.objs.size + 1, s1.heap.objs.size], _, _, H1, rfl, I2, turn_enumB b a (s1.heap.objs.size + 1) s1.heap.objs.size, ⟨⟨.none, he⟩, hB _ _ hit, Nat.succ_ne_self _⟩, fun c hb => ?_, q⟩
    have e' : c = s1.heap.objs.size + 1 ∨ c = s1.heap.objs.size := by simpa using hb
    have hle : s1.heap.objs.size ≤ c := by
      rcases e' with z | z
      · rw [z]; exact Nat.le_succ _
      · rw [z]; exact Nat.le_refl _
    exact I1.fpOk hle (I1.hok.fresh hle)

/-! ### zip -/
def ItzB (K : PySem.W.Frag) (b1 b2 : Bool) (a1 a2 : Addr) : L2.It :=
  ⟨fun i H => ∃ (xs ys : List V) (x y : V), SqB K b1 H a1 xs ∧ SqB K b2 H a2 ys ∧ xs[i]? = some x ∧ ys[i]? = some y,
    fun i H v H' => ∃ T x y, v = .ref T ∧ H T = none ∧ H' = upd H T (.tup [x, y]) ∧ (∀ xs, SqB K b1 H a1 xs → xs[i]? = some x) ∧ ∀ ys, SqB K b2 H a2 ys → ys[i]? = some y,
    fun i H => ∃ xs ys : List V, SqB K b1 H a1 xs ∧ SqB K b2 H a2 ys ∧ i ≤ xs.length ∧ i ≤ ys.length ∧ (xs.length = i ∨ ys.length = i)⟩
structure ZApart (z TI TO i1 i2 : Addr) : Prop where
  TIz : TI ≠ z
  TOz : TO ≠ z
  TITO : TI ≠ TO
  TIi1 : TI ≠ i1
  TIi2 : TI ≠ i2
  zi1 : z ≠ i1
  zi2 : z ≠ i2
  Ti1 : TO ≠ i1
  Ti2 : TO ≠ i2
  ii : i1 ≠ i2
theorem turn_zipB {P : Program} {w : World} {K : PySem.W.Frag} {elts : List Expr} {kk : Nat} {tpos : Pos} {b1 b2 : Bool} {a1 a2 z TI TO i1 i2 : Addr} (D : ZApart z TI TO i1 i2) :
    Turn P w K (.Tuple elts kk tpos) (ItzB K b1 b2 a1 a2) [z, TI, TO, i1, i2] z (fun i h => IsZip h z TI TO .none ∧ IsTupOf2 h TI (.ref i1) (.ref i2) ∧ (∃ x y, IsTupOf2 h TO x y) ∧ ItB b1 h i1 a1 i ∧ ItB b2 h i2 a2 i ∧ a1 ≠ TO ∧ a2 ≠ TO) where
  mem := by simp
  obj := fun i h st c hc => by
    obtain ⟨hz, hTI, ⟨x, y, hTO⟩, h1, h2, _⟩ := st
    obtain ⟨o1, _, _, e1, d1, _⟩ := h1.obj
    obtain ⟨o2, _, _, e2, d2, _⟩ := h2.obj
    have e' : c = z ∨ c = TI ∨ c = TO ∨ c = i1 ∨ c = i2 := by simpa using hc
    rcases e' with q | q | q | q | q
    · rw [q]; exact ⟨_, hz, fun v q => nomatch q⟩
    · rw [q]; exact ⟨_, hTI, fun v q => nomatch q⟩
    · rw [q]; exact ⟨_, hTO, fun v q => nomatch q⟩
    · rw [q]; exact ⟨o1, e1, fun v q => by rw [d1] at q; cases q⟩
    · rw [q]; exact ⟨o2, e2, fun v q => by rw [d2] at q; cases q⟩
  keep := fun i h h' st k => by
    obtain ⟨hz, hTI, ⟨x, y, hTO⟩, h1, h2, n1, n2⟩ := st
    exact ⟨k z (by simp) _ hz, k TI (by simp) _ hTI, ⟨x, y, k TO (by simp) _ hTO⟩, h1.at fun o q => k i1 (by simp) o q, h2.at fun o q => k i2 (by simp) o q, n1, n2⟩
  item := by
    intro X hP hw hK hc i pins s σ H E I hf st hg
    subst hP hw hK
    obtain ⟨hz, hTI, ⟨x0, y0, hTO⟩, h1, h2, n1, n2⟩ := st
    obtain ⟨xs, ys, x, y, hqx, hqy, hx, hy⟩ := hg
    obtain ⟨its, rv, p1⟩ := Inv.seqB I hqx
    obtain ⟨its2, rv2, p2⟩ := Inv.seqB I hqy
    obtain ⟨u, hu, ru⟩ := rv.get hx
    obtain ⟨u2, hu2, ru2⟩ := rv2.get hy
    have hzl : z < s.heap.objs.size := Heap.lt_size hz
    have za : ∀ {b : Bool} {a : Addr} {its : Array Value}, OfB b s.heap a its → z ≠ a := fun p q => by
      obtain ⟨o, n, e1, e2, h⟩ := p.obj
      rw [← q, hz] at e1
      cases e1
      cases e2
      rcases h with h | h <;> exact absurd h (by decide)
    have S : ZipSep2 z TI TO i1 i2 [i1, a1] [i2, a2] := ⟨D.TIz, D.TOz, D.TITO, D.TIi1, by simp, by simp [D.zi1, za p1], by simp [D.Ti1, n1.symm], D.TIi2, by simp, by simp [D.zi2, za p2], by simp [D.Ti2, n2.symm],
      by simp [D.ii, (h1.ne p2).symm], by simp [D.ii.symm, (h2.ne p1).symm]⟩
    have D1 := drawsB (prog := X.prog) (w := X.w) (A := X.A.in1) (I.ok.hd hc) b1 i1 a1 (h1.ne p1) its.toArray
    have D2 := drawsB (prog := X.prog) (w := X.w) (A := X.A.in1) (I.ok.hd hc) b2 i2 a2 (h2.ne p2) its2.toArray
    have lt1 : i < its.toArray.size := by
      have := (List.getElem?_eq_some_iff.mp hu).1
      simpa using this
    have lt2 : i < its2.toArray.size := by
      have := (List.getElem?_eq_some_iff.mp hu2).1
      simpa using this
    refine wpAny_pyNext_zipD2_item S D1 D2 hz hTI hTO ⟨h1, p1⟩ ⟨h2, p2⟩ lt1 lt2 fun v1 v2 h' tk hv1 hv2 z' TO' h1' h2' hT hsz hk => ?_
    have e1 : v1 = u := by
      have : its[i]? = some v1 := by simpa using hv1
      rw [hu] at this
      exact (Option.some.inj this).symm
    have e2 : v2 = u2 := by
      have : its2[i]? = some v2 := by simpa using hv2
      rw [hu2] at this
      exact (Option.some.inj this).symm
    subst e1 e2
    refine ⟨_, rfl, wpAny_letOwnedTupleGo_zip (s := { s with heap := h', toks := tk }) z' fun h'' z'' sb => ?_⟩
    have hT2 : h''.get? s.heap.objs.size = some { cls := .type "tuple", data := .seq #[v1, v2] } := (sb.2 _ (Nat.ne_of_gt hzl)).trans hT
    have new : ObjOk X.prog X.w (upd H s.heap.objs.size (.tup [x, y])) h'' s.heap.objs.size (.tup [x, y]) :=
      ⟨by show 2 ≤ sizeLine; decide, [v1, v2], .cons ru (.cons ru2 .nil), ⟨_, hT2, rfl, _, rfl⟩⟩
    have I1 : Inv X pins σ (upd H s.heap.objs.size (.tup [x, y])) { s with heap := h'', toks := tk } :=
      I.turnedNew (ch := [z, TI, TO, i1, i2]) (fun c o hb q => (sb.2 c (fun q' => hb (by simp [q']))).trans (hk c o (fun q' => hb (by simp [q'])) (fun q' => hb (by simp [q'])) (fun q' => hb (by simp [q'])) (fun q' => hb (by simp [q'])) q)) hf (Nat.le_refl _) new
    refine ⟨.ref s.heap.objs.size, _, I1, rfl, ⟨_, x, y, rfl, I.hok.fresh (Nat.le_refl _), rfl, fun l hl => by rw [Inv.seqB_inj I hl hqx]; exact hx, fun l hl => by rw [Inv.seqB_inj I hl hqy]; exact hy⟩, ⟨z'', ?_, ⟨v1, v2, ?_⟩, ?_, ?_, n1, n2⟩, fun c hcm => ?_⟩
    · exact (sb.2 _ D.TIz).trans (hk _ _ D.TIz D.TITO D.TIi1 D.TIi2 hTI)
    · exact (sb.2 _ D.TOz).trans TO'
    · exact h1'.1.at fun o q => (sb.2 _ D.zi1.symm).trans q
    · exact h2'.1.at fun o q => (sb.2 _ D.zi2.symm).trans q
    · have hlt : c < s.heap.objs.size := by
        obtain ⟨o1, _, _, f1, _⟩ := h1.obj
        obtain ⟨o2, _, _, f2, _⟩ := h2.obj
        have e' : c = z ∨ c = TI ∨ c = TO ∨ c = i1 ∨ c = i2 := by simpa using hcm
        rcases e' with q | q | q | q | q
        · rw [q]; exact hzl
        · rw [q]; exact Heap.lt_size hTI
        · rw [q]; exact Heap.lt_size hTO
        · rw [q]; exact Heap.lt_size f1
        · rw [q]; exact Heap.lt_size f2
      rw [upd_ne (Nat.ne_of_lt hlt)]
      exact (hf c hcm).1
  done := by
    intro X hP hw hK hc i pins s σ H E I hf st hg
    subst hP hw hK
    obtain ⟨hz, hTI, ⟨x0, y0, hTO⟩, h1, h2, n1, n2⟩ := st
    obtain ⟨xs, ys, hqx, hqy, le1, le2, hend⟩ := hg
    obtain ⟨its, rv, p1⟩ := Inv.seqB I hqx
    obtain ⟨its2, rv2, p2⟩ := Inv.seqB I hqy
    have l1 := rv.length
    have l2 := rv2.length
    have za : ∀ {b : Bool} {a : Addr} {its : Array Value}, OfB b s.heap a its → z ≠ a := fun p q => by
      obtain ⟨o, n, e1, e2, h⟩ := p.obj
      rw [← q, hz] at e1
      cases e1
      cases e2
      rcases h with h | h <;> exact absurd h (by decide)
    have S : ZipSep2 z TI TO i1 i2 [i1, a1] [i2, a2] := ⟨D.TIz, D.TOz, D.TITO, D.TIi1, by simp, by simp [D.zi1, za p1], by simp [D.Ti1, n1.symm], D.TIi2, by simp, by simp [D.zi2, za p2], by simp [D.Ti2, n2.symm],
      by simp [D.ii, (h1.ne p2).symm], by simp [D.ii.symm, (h2.ne p1).symm]⟩
    have D1 := drawsB (prog := X.prog) (w := X.w) (A := X.A.in1) (I.ok.hd hc) b1 i1 a1 (h1.ne p1) its.toArray
    have D2 := drawsB (prog := X.prog) (w := X.w) (A := X.A.in1) (I.ok.hd hc) b2 i2 a2 (h2.ne p2) its2.toArray
    exact wpAny_pyNext_zipD2_end S D1 D2 hz hTI hTO ⟨h1, p1⟩ ⟨h2, p2⟩ (by simp; omega) (by simp; omega) (by simp; omega) fun h' tk hk => ⟨rfl, I.turnedL (t' := tk) (ch := [z, TI, TO, i1, i2]) (fun c o hb q =>
      hk c o (fun q' => hb (by simp [q'])) (fun q' => hb (by simp [q'])) (fun q' => hb (by simp [q'])) (fun q' => hb (by simp [q'])) q) hf⟩
  self := fun A i s Q E st h => wpAny_pyIter_zip st.1 h
def iZipB (K : PySem.W.Frag) (ta : TA) : TI := fun σ H R => ta σ H fun vs H1 => ∃ b1 b2 a1 a2 xs ys, vs = [.ref a1, .ref a2] ∧ SqB K b1 H1 a1 xs ∧ SqB K b2 H1 a2 ys ∧ R (ItzB K b1 b2 a1 a2) H1
theorem OfB.lt {b : Bool} {h : Heap} {a : Addr} {its : Array Value} (x : OfB b h a its) : a < h.objs.size := by
  obtain ⟨o, n, e, _⟩ := x.obj
  exact Heap.lt_size e
theorem pi_zipB {X : Cx} {e e2 : Expr} {ta : TA} {p pos tpos : Pos} {elts : List Expr} {kk : Nat} (hg : Gl X "zip") (hm : X.mg "zip" = none) (ha : PA X [e, e2] ta)
    (hs : starEach [e, e2] X.env = (false, eval e X.env) :: starEach [e2] X.env) (hpl : (backTo pos (starEach [e2] X.env)).any (·.1) = false) :
    PI X (.Tuple elts kk tpos) (.Call (.Name "zip" p) [e, e2] [] pos) (iZipB X.K ta) := by
  refine ⟨fun pins s σ H R I h => ?_⟩
  refine Call_ (ld_blt I hg hm PyProof.Rows.boot_zip (PyProof.Rows.callWith_type1 (thn (ha.run pos pins s σ H _ I h) fun us s1 ⟨vs, H1, I1, r1, q1⟩ => ?_) hs hpl))
  obtain ⟨b1, b2, a1, a2, xs, ys, ex, hqx, hqy, q⟩ := q1
  subst ex
  cases r1 with
  | cons r rr =>
    cases rr with
    | cons r' rr =>
      cases rr
      cases r
      cases r'
      obtain ⟨its, rv, p1⟩ := Inv.seqB I1 hqx
      obtain ⟨its2, rv2, p2⟩ := Inv.seqB I1 hqy
      have la := p1.lt
      have lb := p2.lt
      obtain ⟨o1, B1, f1⟩ := beginsB b1 a1 its.toArray
      obtain ⟨o2, B2, f2⟩ := beginsB b2 a2 its2.toArray
      refine zip_begins2 B1 B2 p1 p2 fun h' hz hTI hTO h1 h2 hsz hk => wpAny_pyIter_zip hz ?_
      have I2 : Inv X pins σ H1 { s1 with heap := h' } := I1.kept (t' := s1.toks) hk
      have A : ZApart (s1.heap.objs.size + 4) (s1.heap.objs.size + 2) (s1.heap.objs.size + 3) s1.heap.objs.size (s1.heap.objs.size + 1) := by
        constructor <;> intro q <;> have q' : (_ : Nat) = _ := q <;> omega
      refine ⟨s1.heap.objs.size + 4, [s1.heap.objs.size + 4, s1.heap.objs.size + 2, s1.heap.objs.size + 3, s1.heap.objs.size, s1.heap.objs.size + 1], _, _, H1, rfl, I2, turn_zipB A, ⟨hz, hTI, ⟨_, _, hTO⟩, f1 _ _ h1, f2 _ _ h2, fun q => ?_, fun q => ?_⟩, fun c hcm => ?_, q⟩
      · rw [q] at la
        exact absurd la (Nat.not_lt.mpr (Nat.le_add_right _ _))
      · rw [q] at lb
        exact absurd lb (Nat.not_lt.mpr (Nat.le_add_right _ _))
      have e' : c = s1.heap.objs.size + 4 ∨ c = s1.heap.objs.size + 2 ∨ c = s1.heap.objs.size + 3 ∨ c = s1.heap.objs.size ∨ c = s1.heap.objs.size + 1 := by simpa using hcm
      have hle : s1.heap.objs.size ≤ c := by
        rcases e' with z | z | z | z | z
        · rw [z]; exact Nat.le_add_right _ _
        · rw [z]; exact Nat.le_add_right _ _
        · rw [z]; exact Nat.le_add_right _ _
        · rw [z]; exact Nat.le_refl _
        · rw [z]; exact Nat.le_add_right _ _
      exact I1.fpOk hle (I1.hok.fresh hle)
/-! ### a list, a tuple, a text: by what comes -/
def iSeqV (K : PySem.W.Frag) (te : TE) : TI := fun σ H R => te σ H fun x H1 => (∃ a xs, x = .ref a ∧ SqL K H1 a xs ∧ R (Itl K a) H1) ∨ (∃ a xs, x = .ref a ∧ SqT K H1 a xs ∧ R (Itt K a) H1) ∨ ∃ z, x = .str z ∧ R (Its z) H1
theorem pi_seqV {X : Cx} {tg e : Expr} {te : TE} (he : PE X e te) : PI X tg e (iSeqV X.K te) := by
  refine ⟨fun pins s σ H R I h => ?_⟩
  refine thn (he.run pins s σ H _ I h) fun v s1 ⟨x, H1, I1, r1, q1⟩ => ?_
  rcases q1 with ⟨a, xs, e1, hq, q⟩ | ⟨a, xs, e1, hq, q⟩ | ⟨z, e1, q⟩
  · subst e1
    cases r1
    obtain ⟨its, rv, p, hz⟩ := I1.list hq
    refine wpAny_pyIter_list p.isList ?_
    refine ⟨s1.heap.objs.size, [s1.heap.objs.size], _, _, H1, rfl, I1.kept (t' := s1.toks) fun b o e => Heap.get?_push_of_some _ e, turn_list a _, ⟨_, Heap.get?_push_size _ rfl, rfl, rfl⟩, fun b hb => ?_, q⟩
    have e : b = s1.heap.objs.size := by simpa using hb
    subst e
    exact I1.fpOk (Nat.le_refl _) (I1.hok.fresh (Nat.le_refl _))
  · subst e1
    cases r1
    obtain ⟨its, rv, p, hz⟩ := I1.tuple hq
    refine wpAny_pyIter_tuple (show s1.heap.IsTuple a its.toArray from p) ?_
    refine ⟨s1.heap.objs.size, [s1.heap.objs.size], _, _, H1, rfl, I1.kept (t' := s1.toks) fun b o e => Heap.get?_push_of_some _ e, turn_tuple a _, ⟨_, Heap.get?_push_size _ rfl, rfl, rfl⟩, fun b hb => ?_, q⟩
    have e : b = s1.heap.objs.size := by simpa using hb
    subst e
    exact I1.fpOk (Nat.le_refl _) (I1.hok.fresh (Nat.le_refl _))
  · subst e1
    obtain ⟨t, rfl⟩ := r1
    cases ha : z.cps.all (· < 128)
    · exact wpAny_pyIter_wide ha (pi_one (tk := s1.toks) I1 _ (turn_str _ z t "str_iterator" (.inr rfl)) ⟨_, Heap.get?_push_size _ rfl, rfl, rfl⟩ q)
    · exact wpAny_pyIter_ascii ha (pi_one (tk := s1.toks) I1 _ (turn_str _ z t "str_ascii_iterator" (.inl rfl)) ⟨_, Heap.get?_push_size _ rfl, rfl, rfl⟩ q)
end Mn
end

section
set_option Elab.async false
set_option linter.all false
set_option maxRecDepth 100000
set_option maxHeartbeats 2000000
/-! M2i: what a for or a comprehension walks; list comprehensions. -/
namespace Mn
open PySem PySem.Spec PyProof.Rows L2

theorem Res.bind_assoc {α β γ : Type} (r : Res α) (f : α → Store → Res β) (g : β → Store → Res γ) : (r.bind f).bind g = r.bind fun a O => (f a O).bind g := by
  cases r <;> rfl

/-- the walked thing's items, by the interpreter -/
def ItR (F : Fx) (w : Wd) (O : Store) (H : Hp) (it : Mn.It) (J : L2.It) : Prop := ∀ w' O' H', SOk F w' O' H' → Le w O H w' O' H' → ∀ i,
  (itGet it i O' = some none → J.stop i H') ∧ ∀ v, itGet it i O' = some (some v) → J.go i H' ∧ ∀ x H'', J.yld i H' x H'' → ∃ w'', SOk F w'' O' H'' ∧ Le w' O' H' w'' O' H'' ∧ Rp F w'' O'.length H'' v x
def TIv (F : Fx) (E : L2.St → XK) (f : Env → Store → Res Mn.It) : TI := fun σ H R => ∃ w ρ O, SOk F w O H ∧ ROk F w O.length H ρ σ ∧ Pst F w O H (f ρ O) (fun it w' O' H' => ∀ J, ItR F w' O' H' it J → R J H') (E σ)

section
variable {X : Cx} {F : Fx} {E : L2.St → XK} {f g : Env → Store → Res Val} {fs : Env → Store → Res (List Val)} {a b c e tg : Expr} {es : List Expr} {pos p : Pos}
/-- the kind of a sequence -/
def isTup : Val → Bool
  | .tup _ => true
  | _ => false
theorem Rp.seqB {w : Wd} {O : Store} {H : Hp} (s : SOk F w O H) {v : Val} {x : V} {l : List Val} (r : Rp F w O.length H v x) (e : Mn.seqOf O v = some l) : ∃ q xs, x = .ref q ∧ SqB F.K (!isTup v) H q xs ∧ RpL F w O.length H l xs := by
  cases v with
  | tup m =>
    have e' : some m = some l := e
    cases e'
    obtain ⟨q, xs, e1, e2, e3⟩ := r
    exact ⟨q, xs, e1, e2.sq, e3⟩
  | _ =>
    obtain ⟨q, xs, e1, e2, e3⟩ := r.listOf s (l := l) e
    exact ⟨q, xs, e1, .of e2, e3⟩
theorem itR_list (hK : X.K = F.K) {w : Wd} {O : Store} {H : Hp} {v : Val} {q : Addr} (s : SOk F w O H) (r : Rp F w O.length H v (.ref q)) : ItR F w O H (.seq v) (if isTup v then Itt X.K q else Itl X.K q) := fun w' O' H' s' l' i => by
  have r' := r.le s l'
  have key : ∀ l, seqOf O' v = some l → ∃ xs, SqB X.K (!isTup v) H' q xs ∧ RpL F w' O'.length H' l xs := fun l e => by
    obtain ⟨q', xs, e1, e2, e3⟩ := r'.seqB s' e
    cases e1
    exact ⟨xs, by rw [hK]; exact e2, e3⟩
  refine ⟨fun h => ?_, fun u h => ?_⟩
  · have h' : (match seqOf O' v with | some l => some l[i]? | none => none) = some none := h
    split at h'
    · rename_i l hl
      obtain ⟨xs, e2, e3⟩ := key l hl
      have hx : xs.length ≤ i := by
        have : l[i]? = none := Option.some.inj h'
        rw [← e3.length]
        exact List.getElem?_eq_none_iff.mp this
      cases hv : isTup v with
      | true => rw [hv] at e2; rw [if_pos rfl]; exact ⟨xs, e2, hx⟩
      | false => rw [hv] at e2; rw [if_neg Bool.false_ne_true]; exact ⟨xs, e2, hx⟩
    · cases h'
  · have h' : (match seqOf O' v with | some l => some l[i]? | none => none) = some (some u) := h
    split at h'
    · rename_i l hl
      obtain ⟨xs, e2, e3⟩ := key l hl
      obtain ⟨y, h1, h2⟩ := e3.get (Option.some.inj h')
      cases hv : isTup v with
      | true =>
        rw [hv] at e2
        rw [if_pos rfl]
        refine ⟨⟨xs, y, e2, h1⟩, fun x H'' hy => ?_⟩
        obtain ⟨e5, e6⟩ := hy
        subst e5
        have := e6 xs e2
        rw [h1] at this
        cases this
        exact ⟨w', s', Le.refl, h2⟩
      | false =>
        rw [hv] at e2
        rw [if_neg Bool.false_ne_true]
        refine ⟨⟨xs, y, e2, h1⟩, fun x H'' hy => ?_⟩
        obtain ⟨e5, e6⟩ := hy
        subst e5
        have := e6 xs e2
        rw [h1] at this
        cases this
        exact ⟨w', s', Le.refl, h2⟩
    · cases h'
theorem itR_str {w : Wd} {O : Store} {H : Hp} {z : Str} : ItR F w O H (.str z) (Its z) := fun w' O' H' s' l' i => by
  refine ⟨fun h => ?_, fun u h => ?_⟩
  · have h' : (match z.cps.toList[i]? with | some c => some (some (Val.str ⟨#[c]⟩)) | none => some none) = some none := h
    split at h'
    · cases h'
    · rename_i hz
      have := List.getElem?_eq_none_iff.mp hz
      show z.cps.size ≤ i
      simpa using this
  · have h' : (match z.cps.toList[i]? with | some c => some (some (Val.str ⟨#[c]⟩)) | none => some none) = some (some u) := h
    split at h'
    · rename_i c hz
      cases h'
      have hz' : z.cps[i]? = some c := by simpa using hz
      refine ⟨?_, fun x H'' hy => ?_⟩
      · show i < z.cps.size
        have := (List.getElem?_eq_some_iff.mp hz).1
        simpa using this
      · obtain ⟨e5, d, e6, e7⟩ := hy
        subst e5
        rw [hz'] at e6
        cases e6
        exact ⟨w', s', Le.refl, e7⟩
    · cases h'
theorem itR_rng1 {w : Wd} {O : Store} {H : Hp} {lo : Int} {n : Nat} : ItR F w O H (.rng lo 1 n) (Itr lo n) := fun w' O' H' s' l' i => by
  refine ⟨fun h => ?_, fun u h => ?_⟩
  · have h' : (match Nat.blt i n with | true => some (some (Val.int (lo + i * 1))) | false => some none) = some none := h
    split at h'
    · cases h'
    · rename_i hn
      show n ≤ i
      have := hn
      simp only [Nat.blt_eq, Bool.eq_false_iff, ne_eq] at this
      omega
  · have h' : (match Nat.blt i n with | true => some (some (Val.int (lo + i * 1))) | false => some none) = some (some u) := h
    split at h'
    · rename_i hn
      cases h'
      refine ⟨show i < n by simpa [Nat.blt_eq] using hn, fun x H'' hy => ?_⟩
      obtain ⟨e5, e6⟩ := hy
      subst e5
      refine ⟨w', s', Le.refl, ?_⟩
      rw [Int.mul_one]
      exact e6
    · cases h'
theorem itR_rngc {w : Wd} {O : Store} {H : Hp} {lo c : Int} {n : Nat} : ItR F w O H (.rng lo c n) (Itc lo c n) := fun w' O' H' s' l' i => by
  refine ⟨fun h => ?_, fun u h => ?_⟩
  · have h' : (match Nat.blt i n with | true => some (some (Val.int (lo + i * c))) | false => some none) = some none := h
    split at h'
    · cases h'
    · rename_i hn
      show n ≤ i
      have := hn
      simp only [Nat.blt_eq, Bool.eq_false_iff, ne_eq] at this
      omega
  · have h' : (match Nat.blt i n with | true => some (some (Val.int (lo + i * c))) | false => some none) = some (some u) := h
    split at h'
    · rename_i hn
      cases h'
      refine ⟨show i < n by simpa [Nat.blt_eq] using hn, fun x H'' hy => ?_⟩
      obtain ⟨e5, e6⟩ := hy
      subst e5
      exact ⟨w', s', Le.refl, e6⟩
    · cases h'
theorem itR_enm (hK : X.K = F.K) {w : Wd} {O : Store} {H : Hp} {v : Val} {q : Addr} (s : SOk F w O H) (r : Rp F w O.length H v (.ref q)) : ItR F w O H (.enm v) (IteB X.K (!isTup v) q) := fun w' O' H' s' l' i => by
  have r' := r.le s l'
  have key : ∀ l, seqOf O' v = some l → ∃ xs, SqB X.K (!isTup v) H' q xs ∧ RpL F w' O'.length H' l xs := fun l e => by
    obtain ⟨q', xs, e1, e2, e3⟩ := r'.seqB s' e
    cases e1
    exact ⟨xs, by rw [hK]; exact e2, e3⟩
  have un : itGet (.enm v) i O' = (match seqOf O' v with
    | some l => match l[i]? with
      | some x => some (some (.tup [.int i, x]))
      | none => match Nat.beq i l.length with
        | true => some none
        | false => none
    | none => none) := rfl
  refine ⟨fun h => ?_, fun u h => ?_⟩
  · rw [un] at h
    split at h
    · rename_i l hl
      obtain ⟨xs, e2, e3⟩ := key l hl
      split at h
      · cases h
      · split at h
        · rename_i hb
          exact ⟨xs, e2, by rw [← e3.length]; exact (Nat.eq_of_beq_eq_true hb).symm⟩
        · cases h
    · cases h
  · rw [un] at h
    split at h
    · rename_i l hl
      obtain ⟨xs, e2, e3⟩ := key l hl
      split at h
      · rename_i y hy
        cases h
        obtain ⟨z, h1, h2⟩ := e3.get hy
        refine ⟨⟨xs, z, e2, h1⟩, fun x H'' hyl => ?_⟩
        obtain ⟨T, z', e4, e5, e6, e7⟩ := hyl
        have := e7 xs e2
        rw [h1] at this
        cases this
        subst e6
        obtain ⟨q1, q2⟩ := s'.alloc (.tup [.int (i : Nat), z]) (fun _ z => nomatch z) e5
        refine ⟨_, q1, q2, T, _, e4, .inl ⟨.inr rfl, upd_same⟩, RpL.two rfl (h2.le s' q2)⟩
      · split at h <;> cases h
    · cases h
theorem itR_zip (hK : X.K = F.K) {w : Wd} {O : Store} {H : Hp} {v u : Val} {q1 q2 : Addr} (s : SOk F w O H) (r : Rp F w O.length H v (.ref q1)) (t : Rp F w O.length H u (.ref q2)) : ItR F w O H (.zip v u) (ItzB X.K (!isTup v) (!isTup u) q1 q2) := fun w' O' H' s' l' i => by
  have r' := r.le s l'
  have t' := t.le s l'
  have key : ∀ l, seqOf O' v = some l → ∃ xs, SqB X.K (!isTup v) H' q1 xs ∧ RpL F w' O'.length H' l xs := fun l e => by
    obtain ⟨q', xs, e1, e2, e3⟩ := r'.seqB s' e
    cases e1
    exact ⟨xs, by rw [hK]; exact e2, e3⟩
  have key2 : ∀ l, seqOf O' u = some l → ∃ xs, SqB X.K (!isTup u) H' q2 xs ∧ RpL F w' O'.length H' l xs := fun l e => by
    obtain ⟨q', xs, e1, e2, e3⟩ := t'.seqB s' e
    cases e1
    exact ⟨xs, by rw [hK]; exact e2, e3⟩
  have un : itGet (.zip v u) i O' = (match seqOf O' v, seqOf O' u with
    | some l, some m => match l[i]?, m[i]? with
      | some x, some y => some (some (.tup [x, y]))
      | _, _ => match Nat.ble i l.length && Nat.ble i m.length with
        | true => some none
        | false => none
    | _, _ => none) := rfl
  refine ⟨fun h => ?_, fun z h => ?_⟩
  · rw [un] at h
    split at h
    · rename_i l m hl hm
      obtain ⟨xs, e2, e3⟩ := key l hl
      obtain ⟨ys, f2, f3⟩ := key2 m hm
      split at h
      · cases h
      · rename_i hno
        split at h
        · rename_i hb
          simp only [Bool.and_eq_true, Nat.ble_eq] at hb
          refine ⟨xs, ys, e2, f2, by rw [← e3.length]; exact hb.1, by rw [← f3.length]; exact hb.2, ?_⟩
          rw [← e3.length, ← f3.length]
          have h1 := hb.1
          have h2 := hb.2
          by_cases c1 : i < l.length
          · by_cases c2 : i < m.length
            · exact absurd (List.getElem?_eq_getElem c2) (hno _ _ (List.getElem?_eq_getElem c1))
            · exact .inr (by omega)
          · exact .inl (by omega)
        · cases h
    · cases h
  · rw [un] at h
    split at h
    · rename_i l m hl hm
      obtain ⟨xs, e2, e3⟩ := key l hl
      obtain ⟨ys, f2, f3⟩ := key2 m hm
      split at h
      · rename_i x0 y0 hx hy
        cases h
        obtain ⟨x1, h1, h2⟩ := e3.get hx
        obtain ⟨y1, g1, g2⟩ := f3.get hy
        refine ⟨⟨xs, ys, x1, y1, e2, f2, h1, g1⟩, fun x H'' hyl => ?_⟩
        obtain ⟨T, x', y', e4, e5, e6, e7, e8⟩ := hyl
        have a1 := e7 xs e2
        have a2 := e8 ys f2
        rw [h1] at a1
        rw [g1] at a2
        cases a1
        cases a2
        subst e6
        obtain ⟨p1, p2⟩ := s'.alloc (.tup [x1, y1]) (fun _ z => nomatch z) e5
        exact ⟨_, p1, p2, T, _, e4, .inl ⟨.inr rfl, upd_same⟩, RpL.two (h2.le s' p2) (g2.le s' p2)⟩
      · split at h <;> cases h
    · cases h

theorem TAv.goE {w : Wd} {O : Store} {H : Hp} {ρ : Env} {σ : L2.St} {β : Type} {f : Env → Store → Res (List Val)} {k : List Val → Store → Res β} {R : β → Wd → Store → Hp → Prop} {Q : List V → Hp → Prop} (s : SOk F w O H) (r : ROk F w O.length H ρ σ) (h : Pst F w O H ((f ρ O).bind k) R (E σ))
    (q : ∀ v w1 O1 H1 x, f ρ O = .ok v O1 → SOk F w1 O1 H1 → ROk F w1 O1.length H1 ρ σ → Le w O H w1 O1 H1 → RpL F w1 O1.length H1 v x → Pst F w1 O1 H1 (k v O1) R (E σ) → Q x H1) : TAv F E f σ H Q :=
  ⟨w, ρ, O, s, r, h.bind.impE fun v w' O' H' e s' l' z x rx => q v w' O' H' x e s' (r.le s l') l' rx z⟩
/-- the iterator from the arguments -/
def mkR (k : Ik) (fs : Env → Store → Res (List Val)) : Env → Store → Res Mn.It := fun ρ O => (fs ρ O).bind fun vs O1 => match mkIt k vs O1 with
  | some it => .ok it O1
  | none => .bad
theorem mkIt_seq {v : Val} {it : Mn.It} {O : Store} (e : mkIt .seq [v] O = some it) : (∃ y, v = .str y ∧ it = .str y) ∨ ∃ l, seqOf O v = some l ∧ it = .seq v := by
  unfold mkIt at e
  split at e
  all_goals first | contradiction | skip
  · rename_i h
    cases h
    cases e
    exact .inl ⟨_, rfl, rfl⟩
  · rename_i h
    cases h
    split at e
    · rename_i l hl
      cases e
      exact .inr ⟨l, hl, rfl⟩
    · cases e
theorem gi_seq (hK : X.K = F.K) (he : PE X e (TEv F E f)) : PI X tg e (TIv F E (mkR .seq fun ρ O => (f ρ O).bind fun x O1 => (Res.ok ([] : List Val) O1).bind fun xs O2 => .ok (x :: xs) O2)) :=
  (pi_seqV he).imp fun σ H R ⟨w, ρ, O, s, r, z⟩ => by
    unfold mkR at z
    rw [Res.bind_assoc] at z
    refine TEv.go s r z fun v w1 O1 H1 x s1 r1 l1 rx z1 => ?_
    have z2 : Pst F w1 O1 H1 (match mkIt .seq [v] O1 with | some it => Res.ok it O1 | none => .bad) (fun it w' O' H' => ∀ J, ItR F w' O' H' it J → R J H') (E σ) := z1
    split at z2
    · rename_i it hit
      have q := z2.here s1
      rcases mkIt_seq hit with ⟨y, rfl, rfl⟩ | ⟨l, hl, rfl⟩
      · exact .inr (.inr ⟨y, rx, q _ itR_str⟩)
      · obtain ⟨q', xs, e1, e2, e3⟩ := rx.seqB s1 hl
        subst e1
        have h := q _ (itR_list hK s1 rx)
        rw [← hK] at e2
        cases hv : isTup v with
        | true =>
          rw [hv] at e2 h
          exact .inr (.inl ⟨q', xs, rfl, e2, h⟩)
        | false =>
          rw [hv] at e2 h
          exact .inl ⟨q', xs, rfl, e2, h⟩
    · exact z2.elim
theorem gi_rng1 (hg : Gl X "range") (hm : X.mg "range" = none) (ha : PA X [a] (TAv F E fs)) (hl : ∀ ρ O vs O', fs ρ O = .ok vs O' → vs.length = 1) (hs : starEach [a] X.env = [(false, eval a X.env)]) :
    PI X tg (.Call (.Name "range" p) [a] [] pos) (TIv F E (mkR .rng fs)) :=
  (pi_range1 hg hm ha hs).imp fun σ H R ⟨w, ρ, O, s, r, z⟩ => TAv.goE s r z fun vs w1 O1 H1 xs e s1 r1 l1 rx z1 => by
    split at z1
    · rename_i it hit
      have q := z1.here s1
      unfold mkIt at hit
      split at hit
      all_goals first | contradiction | skip
      · split at hit
        · rename_i hr
          cases hit
          obtain ⟨x, rfl, hx⟩ := rx.of1
          have := rngOk_le hr
          exact ⟨_, by rw [show x = .int _ from hx], by omega, by omega, q _ itR_rng1⟩
        · cases hit
      · exact absurd (hl _ _ _ _ e) (by simp)
      · exact absurd (hl _ _ _ _ e) (by simp)
    · exact z1.elim
theorem gi_rng2 (hg : Gl X "range") (hm : X.mg "range" = none) (ha : PA X [a, b] (TAv F E fs)) (hl : ∀ ρ O vs O', fs ρ O = .ok vs O' → vs.length = 2) (hs : starEach [a, b] X.env = [(false, eval a X.env), (false, eval b X.env)]) (hs2 : starEach [b] X.env = [(false, eval b X.env)]) :
    PI X tg (.Call (.Name "range" p) [a, b] [] pos) (TIv F E (mkR .rng fs)) :=
  (pi_range2 hg hm ha hs hs2).imp fun σ H R ⟨w, ρ, O, s, r, z⟩ => TAv.goE s r z fun vs w1 O1 H1 xs e s1 r1 l1 rx z1 => by
    split at z1
    · rename_i it hit
      have q := z1.here s1
      unfold mkIt at hit
      split at hit
      all_goals first | contradiction | skip
      · exact absurd (hl _ _ _ _ e) (by simp)
      · split at hit
        · rename_i hr
          cases hit
          simp only [Bool.and_eq_true] at hr
          obtain ⟨x, y, rfl, hx, hy⟩ := rx.of2
          have h1 := rngOk_le hr.1
          have h2 := rngOk_le hr.2
          exact ⟨_, _, by rw [show x = .int _ from hx, show y = .int _ from hy], by omega, q _ itR_rng1⟩
        · cases hit
      · exact absurd (hl _ _ _ _ e) (by simp)
    · exact z1.elim
theorem gi_rng3 (hg : Gl X "range") (hm : X.mg "range" = none) (ha : PA X [a, b, c] (TAv F E fs)) (hl : ∀ ρ O vs O', fs ρ O = .ok vs O' → vs.length = 3) (hs : starEach [a, b, c] X.env = (false, eval a X.env) :: starEach [b, c] X.env) (hpl : (backTo pos (starEach [b, c] X.env)).any (·.1) = false) :
    PI X tg (.Call (.Name "range" p) [a, b, c] [] pos) (TIv F E (mkR .rng fs)) :=
  (pi_range3 hg hm ha hs hpl).imp fun σ H R ⟨w, ρ, O, s, r, z⟩ => TAv.goE s r z fun vs w1 O1 H1 xs e s1 r1 l1 rx z1 => by
    split at z1
    · rename_i it hit
      have q := z1.here s1
      unfold mkIt at hit
      split at hit
      all_goals first | contradiction | skip
      · exact absurd (hl _ _ _ _ e) (by simp)
      · exact absurd (hl _ _ _ _ e) (by simp)
      · split at hit
        · rename_i i j k _ _ hr
          cases hit
          simp only [Bool.and_eq_true, Nat.blt_eq, Bool.not_eq_true', decide_eq_false_iff_not] at hr
          obtain ⟨x, t, e1, hx, ht⟩ := rx
          obtain ⟨y, z, rfl, hy, hz⟩ := ht.of2
          subst e1
          refine ⟨i, j, k, (Builtin.Range.rangeSize i j k).toNat, by rw [show x = .int _ from hx, show y = .int _ from hy, show z = .int _ from hz], ⟨hr.1.1, hr.1.2, hr.2, ?_⟩, q _ itR_rngc⟩
          have : 0 ≤ Builtin.Range.rangeSize i j k := by
            unfold Builtin.Range.rangeSize
            have c0 : k ≠ 0 := hr.1.1
            split
            · split
              · have : 0 ≤ (j - i - 1) / k := Int.ediv_nonneg (by omega) (by omega)
                omega
              · omega
            · split
              · have : 0 ≤ (i - j - 1) / (-k) := Int.ediv_nonneg (by omega) (by omega)
                omega
              · omega
          omega
        · cases hit
    · exact z1.elim
theorem gi_enm (hK : X.K = F.K) {elts : List Expr} {kk : Nat} {tpos : Pos} (hg : Gl X "enumerate") (hm : X.mg "enumerate" = none) (ha : PA X [a] (TAv F E fs)) (hl : ∀ ρ O vs O', fs ρ O = .ok vs O' → vs.length = 1) (hs : starEach [a] X.env = [(false, eval a X.env)]) :
    PI X (.Tuple elts kk tpos) (.Call (.Name "enumerate" p) [a] [] pos) (TIv F E (mkR .enm fs)) :=
  (pi_enumB hg hm ha hs).imp fun σ H R ⟨w, ρ, O, s, r, z⟩ => TAv.goE s r z fun vs w1 O1 H1 xs e s1 r1 l1 rx z1 => by
    split at z1
    · rename_i it hit
      have q := z1.here s1
      unfold mkIt at hit
      split at hit
      all_goals first | contradiction | skip
      split at hit
      · rename_i l hl
        cases hit
        obtain ⟨x, rfl, hx⟩ := rx.of1
        obtain ⟨q', ys, rfl, e2, e3⟩ := hx.seqB s1 hl
        exact ⟨_, q', ys, rfl, by rw [hK]; exact e2, q _ (itR_enm hK s1 hx)⟩
      · cases hit
    · exact z1.elim
theorem gi_zip (hK : X.K = F.K) {elts : List Expr} {kk : Nat} {tpos : Pos} (hg : Gl X "zip") (hm : X.mg "zip" = none) (ha : PA X [a, b] (TAv F E fs)) (hl : ∀ ρ O vs O', fs ρ O = .ok vs O' → vs.length = 2) (hs : starEach [a, b] X.env = (false, eval a X.env) :: starEach [b] X.env) (hpl : (backTo pos (starEach [b] X.env)).any (·.1) = false) :
    PI X (.Tuple elts kk tpos) (.Call (.Name "zip" p) [a, b] [] pos) (TIv F E (mkR .zip fs)) :=
  (pi_zipB hg hm ha hs hpl).imp fun σ H R ⟨w, ρ, O, s, r, z⟩ => TAv.goE s r z fun vs w1 O1 H1 xs e s1 r1 l1 rx z1 => by
    split at z1
    · rename_i it hit
      have q := z1.here s1
      unfold mkIt at hit
      split at hit
      all_goals first | contradiction | skip
      split at hit
      · rename_i l m hl hm
        cases hit
        obtain ⟨x, y, rfl, hx, hy⟩ := rx.of2
        obtain ⟨q1, ys, rfl, e2, e3⟩ := hx.seqB s1 hl
        obtain ⟨q2, zs, rfl, f2, f3⟩ := hy.seqB s1 hm
        exact ⟨_, _, q1, q2, ys, zs, rfl, by rw [hK]; exact e2, by rw [hK]; exact f2, q _ (itR_zip hK s1 hx hy)⟩
      · cases hit
    · exact z1.elim
end
end Mn
end

section
set_option Elab.async false
set_option linter.all false
set_option maxRecDepth 100000
set_option maxHeartbeats 2000000
/-! M2j: targets; list comprehensions. -/
namespace Mn
open PySem PySem.Spec PyProof.Rows L2

def TGv (F : Fx) (E : XK) (T : L2.St → L2.St → Prop) (g : Val → Env → Store → Res Env) : TG := fun v' σ H Q => ∃ w ρ O v, SOk F w O H ∧ ROk F w O.length H ρ σ ∧ Rp F w O.length H v v' ∧
  Pst F w O H (g v ρ O) (fun ρ' w' O' H' => ∀ σ', ROk F w' O'.length H' ρ' σ' → T σ σ' → Q σ' H') E
def TGsv (F : Fx) (E : XK) (T : L2.St → L2.St → Prop) (g : List Val → Env → Store → Res Env) : TGs := fun vs' σ H Q => ∃ w ρ O vs, SOk F w O H ∧ ROk F w O.length H ρ σ ∧ RpL F w O.length H vs vs' ∧
  Pst F w O H (g vs ρ O) (fun ρ' w' O' H' => ∀ σ', ROk F w' O'.length H' ρ' σ' → T σ σ' → Q σ' H') E
section
variable {X : Cx} {F : Fx} {E : XK} {T : L2.St → L2.St → Prop} {f g : Env → Store → Res Val} {a b e o : Expr} {es : List Expr} {pos : Pos} {x : Str} {i : Nat}
theorem gg_name (hT : ∀ σ y, T σ (σ.set i (some y))) (hN : X.N.Nodup) (hi : X.N[i]? = some x) (hx : Loc X.env.scope x) (hf : X.fn x = true ∨ X.env.scope.names.lookup x = some .local) {kp : Bool} :
    PG X (.Name x pos) (TGv F E T fun v ρ O => match kp with
      | true => .ok (ρ.set i (some v)) O
      | false => match Mn.close v O with
        | some (v', O1) => .ok (ρ.set i (some v')) O1
        | none => .bad) :=
  (L2.pg_name hN hi hx hf).imp fun v' σ H Q ⟨w, ρ, O, v, s, r, rv, z⟩ => by
    show Q (σ.set i (some v')) H
    cases kp with
    | true => exact (z.here s) _ (r.set i rv) (hT σ v')
    | false =>
      dsimp only at z
      split at z
      · rename_i u O1 hc
        obtain ⟨w', s', l', r'⟩ := close_step s rv hc
        exact z w' H s' l' _ ((r.le s l').set i r') (hT σ v')
      · exact z.elim
theorem gg_nil (hT : ∀ σ, T σ σ) : PGs X [] (TGsv F E T fun vs ρ O => match vs with | [] => .ok ρ O | _ => .bad) := ⟨fun pins st σ H vs us Q I r ⟨w, ρ, O, l, s, r', rv, z⟩ => L2.pgs_nil.run pins st σ H vs us Q I r (by
  dsimp only at z
  split at z
  · exact ⟨rv, z.here s σ r' (hT σ)⟩
  · exact z.elim)⟩
theorem gg_cons (hT : ∀ a b c, T a b → T b c → T a c) {t : Val → Env → Store → Res Env} {u : List Val → Env → Store → Res Env} (h1 : PG X e (TGv F E T t)) (h2 : PGs X es (TGsv F E T u))
    (hs : (assignEach (e :: es) X.env).map (·.2) = assign e X.env :: (assignEach es X.env).map (·.2)) :
    PGs X (e :: es) (TGsv F E T fun vs ρ O => match vs with | v :: r => (t v ρ O).bind fun ρ1 O1 => u r ρ1 O1 | [] => .bad) := ⟨fun pins st σ H vs us Q I r ⟨w, ρ, O, l, s, r', rv, z⟩ => (L2.pgs_cons h1 h2 hs).run pins st σ H vs us Q I r (by
  dsimp only at z
  split at z
  · obtain ⟨y, ys, e1, q1, q2⟩ := rv
    refine ⟨y, ys, e1, w, ρ, O, _, s, r', q1, z.bind.imp fun ρ1 w1 O1 H1 s1 l1 z1 σ1 rs1 t1 => ?_⟩
    exact ⟨w1, ρ1, O1, _, s1, rs1, q2.le s l1, z1.imp fun ρ2 w2 O2 H2 s2 l2 z2 σ2 rs2 t2 => z2 σ2 rs2 (hT _ _ _ t1 t2)⟩
  · exact z.elim)⟩
/-- (a, b, ..) = a tuple or a list of that length -/
theorem pg_seqB {k n : Nat} {t : TGs} (hc : X.calm = true) (h : PGs X es t) (hn : (assignEach es X.env).length = n) (hst : (assignEach es X.env).findIdx? (·.1) = none) :
    PG X (.Tuple es k pos) (fun v σ H Q => ∃ b a xs, v = .ref a ∧ SqB X.K b H a xs ∧ xs.length = n ∧ t xs σ H Q) := ⟨fun pins s σ H v u Q I r ⟨b, a, xs, e1, h1, h2, h3⟩ => by
  cases b with
  | true => exact (L2.pg_unl hc h hn hst).run pins s σ H v u Q I r ⟨a, xs, e1, h1, h2, h3⟩
  | false => exact (L2.pg_tup hc h hn hst).run pins s σ H v u Q I r ⟨a, xs, e1, h1, h2, h3⟩⟩
theorem gg_tp (hK : X.K = F.K) {k n : Nat} {t : List Val → Env → Store → Res Env} (hc : X.calm = true) (h : PGs X es (TGsv F E T t)) (hn : (assignEach es X.env).length = n) (hst : (assignEach es X.env).findIdx? (·.1) = none) :
    PG X (.Tuple es k pos) (TGv F E T fun v ρ O => match v with
      | .tup l => (match Nat.beq n l.length with | true => t l ρ O | false => .bad)
      | .lst l => (match Nat.beq n l.length with | true => t l ρ O | false => .bad)
      | _ => .bad) :=
  (pg_seqB hc h hn hst).imp fun v' σ H Q ⟨w, ρ, O, v, s, r, rv, z⟩ => by
    dsimp only at z
    split at z
    · split at z
      · rename_i hb
        obtain ⟨q, xs, e1, e2, e3⟩ := rv
        exact ⟨false, q, xs, e1, by rw [hK]; exact e2.sq, by rw [← e3.length]; exact (Nat.eq_of_beq_eq_true hb).symm, w, ρ, O, _, s, r, e3, z⟩
      · exact z.elim
    · split at z
      · rename_i hb
        obtain ⟨q, xs, e1, _, e2, e3⟩ := rv
        exact ⟨true, q, xs, e1, .of e2, by rw [← e3.length]; exact (Nat.eq_of_beq_eq_true hb).symm, w, ρ, O, _, s, r, e3, z⟩
      · exact z.elim
    · exact z.elim
/-- o[i] = v by values -/
def rSetV (F : Fx) (fz : Bool) : TSet := fun o i v H Q => ∃ w O ov iv vv O', SOk F w O H ∧ Rp F w O.length H ov o ∧ Rp F w O.length H iv i ∧ Rp F w O.length H vv v ∧ setV fz ov iv vv O = some O' ∧ ∀ w' H', SOk F w' O' H' → Le w O H w' O' H' → Q H'
theorem set_val {fz : Bool} : PSet X (rSetV F fz) := by
  intro pins s σ H o i v ov iv u Q I ro ri rv ⟨w, O, o0, i0, v0, O', sk, p1, p2, p3, e, q⟩
  unfold setV at e
  split at e
  · rename_i v1 O1 hE
    obtain ⟨w1, s1, l1, r1⟩ := emb_step sk p3 hE
    split at e
    · rename_i k l hl
      obtain ⟨hk, ex, xs, hH, rl⟩ := (p1.le sk l1).live s1 hl
      split at e
      · rename_i n
        split at e
        · rename_i j hj
          cases e
          obtain ⟨s2, l2⟩ := s1.write (xs' := xs.set j v) hk (rl.set j r1)
          exact set_list pins s σ H o i v ov iv u Q I ro ri rv ⟨_, xs, n, j, ex, p2, hH, by rw [← rl.length]; exact hj, q _ _ s2 (l1.trans l2)⟩
        · cases e
      · cases e
    · cases e
  · cases e
theorem gg_sub {fz : Bool} (ho : PE X o (TEv F (fun _ => E) f)) (hi : PE X e (TEv F (fun _ => E) g)) (hT : ∀ σ, T σ σ)
    (ha : ∀ v, assign (.Subscript o e pos) X.env v = (do
      let ov ← holding [v] (eval o X.env)
      let iv ← holding [v, ov] (eval e X.env)
      standAt pos
      holding [v, ov, iv] (setItem ov iv v)
      release [v, ov, iv] [])) :
    PG X (.Subscript o e pos) (TGv F E T fun v ρ O => (f ρ O).bind fun x O1 => (g ρ O1).bind fun y O2 => match setV fz x y v O2 with
      | some O3 => .ok ρ O3
      | none => .bad) :=
  (L2.pg_sub ho hi (set_val (F := F) (fz := fz)) ha).imp fun v' σ H Q ⟨w, ρ, O, v, s, r, rv, z⟩ => TEv.go s r z fun x w1 O1 H1 x' s1 r1 l1 rx z1 => TEv.go s1 r1 z1 fun y w2 O2 H2 y' s2 r2 l2 ry z2 => by
    split at z2
    · rename_i O3 hs
      exact ⟨w2, O2, x, y, v, O3, s2, rx.le s1 l2, ry, (rv.le s l1).le s1 l2, hs, fun w' H' s' l' => z2 w' H' s' l' σ (r2.le s2 l') (hT σ)⟩
    · exact z2.elim

/-! ### list comprehensions -/
def TCv (F : Fx) (E : L2.St → XK) (g : Env → Store → Res Bool) : TT := fun σ H Q => ∃ w ρ O, SOk F w O H ∧ ROk F w O.length H ρ σ ∧ Pst F w O H (g ρ O) (fun b _ _ H' => Q b H') (E σ)
theorem gc_nil {E : L2.St → XK} : PTs X [] (TCv F E fun _ O => .ok true O) := ⟨fun pins st σ H Q I ⟨w, ρ, O, s, r, z⟩ => pts_nil.run pins st σ H Q I (z.here s)⟩
theorem gc_one {E : L2.St → XK} (h : PT X a (TTv F E f)) : PTs X [a] (TCv F E fun ρ O => (f ρ O).bind fun x O1 => match x with | .bl b => .ok b O1 | _ => .bad) :=
  ⟨fun pins st σ H Q I ⟨w, ρ, O, s, r, z⟩ => (pts_one h).run pins st σ H Q I (TTv.go s r z fun v w1 O1 H1 s1 r1 l1 z1 => by
    split at z1
    · exact ⟨_, rfl, z1.here s1⟩
    · exact z1.elim)⟩
/-- an address that the world does not know of -/
def Out (w : Wd) (O : Store) (D : Addr) : Prop := ¬ w.Z D ∧ ¬ Hot w O D
theorem Out.le {w w' : Wd} {O O' : Store} {H H' : Hp} {D : Addr} {u : HO} (h : Out w O D) (e : H D = some u) (nt : NT u) (l : Le w O H w' O' H') : Out w' O' D ∧ H' D = some u := by
  refine ⟨⟨fun z => ?_, fun z => ?_⟩, l.keep D u e h.2 nt⟩
  · rcases l.znew D z with q | q | q
    · exact h.1 q
    · rw [e] at q; cases q
    · exact h.2 q
  · rcases l.hot D z with q | q
    · exact h.2 q
    · rw [e] at q; cases q
theorem Out.upd {w : Wd} {O : Store} {H : Hp} {D : Addr} {u u' : HO} (h : Out w O D) (e : H D = some u) (nt : NT u) (s : SOk F w O H) : SOk F w O (upd H D u') ∧ ∀ {w1 : Wd} {O1 : Store} {H1 : Hp}, H1 D = none → Le w1 O1 H1 w O H → Le w1 O1 H1 w O (L2.upd H D u') := by
  have ne : ∀ a o, H a = some o → (w.Z a ∨ Hot w O a ∨ ∃ ps, o = .tbl ps) → L2.upd H D u' a = some o := fun a o q z => by
    rw [upd_ne]
    · exact q
    · intro y
      subst y
      rw [e] at q
      cases q
      rcases z with z | z | ⟨ps, z⟩
      · exact h.1 z
      · exact h.2 z
      · exact nt ps z
  refine ⟨⟨fun a z => ?_, s.tab.keep (fun _ z => z) fun a o q z => ne a o q ?_, fun k c q => ?_, s.inj⟩, fun {w1 O1 H1} hn l => ⟨l.len, l.ad, l.z, fun a o q n nt' => ?_, l.znew, l.hot, fun a o q => ?_⟩⟩
  · obtain ⟨⟨o, q, n⟩, m⟩ := s.zt a z
    exact ⟨⟨o, ne a o q (.inl z), n⟩, m⟩
  · rcases z with z | z
    · exact .inl z
    · exact .inr (.inr z)
  · have hc := s.cell k c q
    obtain ⟨t1, t2⟩ := hc.there
    have hot1 : ∀ u0, H (w.ad k) = some u0 → L2.upd H D u' (w.ad k) = some u0 := fun u0 q0 => by
      cases c with
      | lst b l =>
        cases b with
        | true => exact ne _ _ q0 (.inr (.inl ⟨k, _, q, rfl⟩))
        | false => exact ne _ _ q0 (.inl hc.1)
      | ins c0 fs => exact ne _ _ q0 (.inr (.inl ⟨k, _, q, .inl rfl⟩))
    refine hc.mono (Nat.le_refl _) (fun _ _ => rfl) (fun _ z => z) (fun a u0 z q0 => ne a u0 q0 (.inl z)) rfl rfl hot1 fun z u0 q0 => ?_
    obtain ⟨c0, fs, z⟩ := z
    subst z
    exact ne _ _ q0 (.inr (.inl ⟨k, _, q, .inr rfl⟩))
  · rw [upd_ne (ne_of_none q hn)]
    exact l.keep a o q n nt'
  · by_cases y : a = D
    · exact ⟨u', by rw [y]; exact upd_same⟩
    · obtain ⟨o', q'⟩ := l.there a o q
      exact ⟨o', by rw [upd_ne y]; exact q'⟩
/-- the list at D is let in -/
theorem Out.into {w w1 : Wd} {O O1 O' : Store} {H H1 : Hp} {D : Addr} {l : List Val} {xs : List V} {kp : Bool} {v : Val} (h : Out w O D) (e : H D = some (.lst xs)) (s : SOk F w O H) (r : RpL F w O.length H l xs) (hn : H1 D = none) (le : Le w1 O1 H1 w O H) (en : newL kp l O = some (v, O')) :
    ∃ w', SOk F w' O' H ∧ Le w1 O1 H1 w' O' H ∧ Rp F w' O'.length H v (.ref D) := by
  unfold newL at en
  split at en
  · split at en
    · cases en
      -- live
      have had : ∀ k, k < O.length → (w.new O.length D D).ad k = w.ad k ∧ (w.new O.length D D).dx k = w.dx k := fun k hk => Wd.new_ad hk
      have sp : ∀ k c, (O ++ [Cell.lst true l])[k]? = some c → (k < O.length ∧ O[k]? = some c) ∨ (k = O.length ∧ c = .lst true l) := fun k c q => by
        rcases get_append_new q with q | q
        · exact .inl ⟨getElem_lt q, q⟩
        · exact .inr q
      have hh : ∀ a, Hot (w.new O.length D D) (O ++ [.lst true l]) a → Hot w O a ∨ a = D := fun a ⟨k, c, q, z⟩ => by
        rcases sp k c q with ⟨hk, q⟩ | ⟨hk, q9⟩
        · obtain ⟨x1, x2⟩ := had k hk
          exact .inl ⟨k, c, q, (HotC.eq x1 x2).mp z⟩
        · subst hk q9
          have z' : (w.new O.length D D).ad O.length = a := z
          simp at z'
          exact .inr z'.symm
      refine ⟨w.new O.length D D, ⟨fun a z => ?_, s.tab.keep (fun _ z => z) fun _ _ q _ => q, fun k c q => ?_, fun i j c d a q1 q2 z1 z2 => ?_⟩, ⟨by rw [List.length_append]; exact Nat.le_trans le.len (Nat.le_succ _), fun k hk => ?_, le.z, le.keep, le.znew, fun a z => ?_, le.there⟩, by rw [List.length_append]; exact Nat.lt_succ_self _, by simp⟩
      · obtain ⟨h1, h2⟩ := s.zt a z
        refine ⟨h1, fun q => ?_⟩
        rcases hh a q with q | q
        · exact h2 q
        · subst q; exact h.1 z
      · rw [List.length_append]
        rcases sp k c q with ⟨hk, q⟩ | ⟨hk, q9⟩
        · obtain ⟨x1, x2⟩ := had k hk
          exact (s.cell k c q).mono (Nat.le_succ _) (fun k hk => (had k hk).1) (fun _ z => z) (fun _ _ _ q => q) x1 x2 (fun _ q => q) fun _ _ q => q
        · subst hk q9
          exact ⟨xs, by simpa using e, r.mono (Nat.le_succ _) (fun k hk => (had k hk).1) (fun _ z => z) fun _ _ _ q => q⟩
      · rcases sp i c q1 with ⟨hi, q1⟩ | ⟨hi, q9⟩
        · rcases sp j d q2 with ⟨hj, q2⟩ | ⟨hj, q8⟩
          · exact s.inj i j c d a q1 q2 ((HotC.eq (had i hi).1 (had i hi).2).mp z1) ((HotC.eq (had j hj).1 (had j hj).2).mp z2)
          · exfalso
            subst hj q8
            have z' : (w.new O.length D D).ad O.length = a := z2
            simp at z'
            exact h.2 ⟨i, c, q1, by rw [z']; exact (HotC.eq (had i hi).1 (had i hi).2).mp z1⟩
        · rcases sp j d q2 with ⟨hj, q2⟩ | ⟨hj, q8⟩
          · exfalso
            subst hi q9
            have z' : (w.new O.length D D).ad O.length = a := z1
            simp at z'
            exact h.2 ⟨j, d, q2, by rw [z']; exact (HotC.eq (had j hj).1 (had j hj).2).mp z2⟩
          · rw [hi, hj]
      · obtain ⟨x1, x2⟩ := had k (Nat.lt_of_lt_of_le hk le.len)
        obtain ⟨y1, y2⟩ := le.ad k hk
        exact ⟨x1.trans y1, x2.trans y2⟩
      · rcases hh a z with q | q
        · exact le.hot a q
        · rw [q]; exact .inr hn
    · split at en
      · cases en
        have hh : ∀ a, Hot (w.seal D) O a ↔ Hot w O a := fun a => ⟨fun ⟨k, c, q, z⟩ => ⟨k, c, q, (HotC.eq rfl rfl).mp z⟩, fun ⟨k, c, q, z⟩ => ⟨k, c, q, (HotC.eq rfl rfl).mpr z⟩⟩
        refine ⟨w.seal D, ⟨fun a z => ?_, s.tab.keep (fun _ z => .inl z) fun _ _ q _ => q, fun k c q => (s.cell k c q).mono (Nat.le_refl _) (fun _ _ => rfl) (fun _ z => .inl z) (fun _ _ _ q => q) rfl rfl (fun _ q => q) fun _ _ q => q,
          fun i j c d a q1 q2 z1 z2 => s.inj i j c d a q1 q2 ((HotC.eq rfl rfl).mp z1) ((HotC.eq rfl rfl).mp z2)⟩, ⟨le.len, le.ad, fun a z => .inl (le.z a z), le.keep, fun a z => ?_, fun a z => le.hot a ((hh a).mp z), le.there⟩, D, xs, rfl, .inr rfl, e, RpL.mono (w := w) (w' := w.seal D) (Nat.le_refl _) (fun _ _ => rfl) (fun _ z => Or.inl z) (fun _ _ _ q => q) _ _ r⟩
        · rcases z with z | z
          · obtain ⟨h1, h2⟩ := s.zt a z
            exact ⟨h1, fun q => h2 ((hh a).mp q)⟩
          · subst z
            exact ⟨⟨_, e, fun _ z => nomatch z⟩, fun q => h.2 ((hh _).mp q)⟩
        · rcases z with z | z
          · exact le.znew a z
          · subst z; exact .inr (.inl hn)
      · cases en
  · cases en
end
end Mn
end

section
set_option Elab.async false
set_option linter.all false
set_option maxRecDepth 100000
set_option maxHeartbeats 2000000
/-! M2k: list comprehensions. -/
namespace Mn
open PySem PySem.Spec PyProof.Rows L2

theorem wipe_at (σ : L2.St) (i : Nat) : ∀ vs : List Nat, (L2.wipe σ vs)[i]? = if i ∈ vs then (σ[i]?).map (fun _ => none) else σ[i]?
  | [] => by simp [L2.wipe]
  | v :: vs => by
    have ih := wipe_at σ i vs
    show ((L2.wipe σ vs).set v none)[i]? = _
    by_cases hv : v = i
    · subst hv
      have hm : v ∈ v :: vs := List.mem_cons_self
      rw [if_pos hm]
      by_cases hl : v < (L2.wipe σ vs).length
      · rw [List.getElem?_set_self hl]
        rw [L2.wipe_length] at hl
        rw [List.getElem?_eq_getElem hl]
        rfl
      · rw [List.getElem?_eq_none (by simpa using hl)]
        rw [L2.wipe_length] at hl
        rw [List.getElem?_eq_none (by omega)]
        rfl
    · rw [List.getElem?_set_ne hv, ih]
      have : (i ∈ v :: vs) ↔ i ∈ vs := by
        simp only [List.mem_cons]
        exact ⟨fun h => h.resolve_left fun e => hv e.symm, fun h => .inr h⟩
      by_cases hm : i ∈ vs
      · rw [if_pos hm, if_pos (this.mpr hm)]
      · rw [if_neg hm, if_neg fun h => hm (this.mp h)]
theorem wipe_twice (σ : L2.St) (vs : List Nat) : L2.wipe (L2.wipe σ vs) vs = L2.wipe σ vs := by
  apply List.ext_getElem?
  intro i
  rw [wipe_at, wipe_at]
  by_cases h : i ∈ vs
  · simp only [if_pos h]
    cases σ[i]? <;> rfl
  · simp only [if_neg h]
theorem wipe_set {σ : L2.St} {vs : List Nat} {i : Nat} {o : Option V} (h : i ∈ vs) : L2.wipe (σ.set i o) vs = L2.wipe σ vs := by
  apply List.ext_getElem?
  intro j
  rw [wipe_at, wipe_at]
  by_cases hj : j ∈ vs
  · rw [if_pos hj, if_pos hj]
    by_cases e : i = j
    · subst e
      by_cases hl : i < σ.length
      · rw [List.getElem?_set_self hl, List.getElem?_eq_getElem hl]; rfl
      · rw [List.getElem?_eq_none (by simpa using hl), List.getElem?_eq_none (by omega)]
    · rw [List.getElem?_set_ne e]
  · have e : i ≠ j := fun e => hj (by rw [← e]; exact h)
    rw [if_neg hj, if_neg hj, List.getElem?_set_ne e]

theorem SOk.ghost {F : Fx} {w : Wd} {O : Store} {H : Hp} {D : Addr} (s : SOk F w O H) (hD : H D = none) (u : HO) : SOk F w O (upd H D u) ∧ Le w O H w O (upd H D u) ∧ Out w O D := by
  refine ⟨⟨fun a z => ?_, s.tab.keep (fun _ z => z) fun a o e _ => upd_keep hD e, fun k c e => ?_, s.inj⟩, ⟨Nat.le_refl _, fun _ _ => ⟨rfl, rfl⟩, fun _ z => z, fun a o e _ _ => upd_keep hD e, fun _ z => .inl z, fun _ z => .inl z, fun a o e => ⟨o, upd_keep hD e⟩⟩, fun z => ?_, fun z => s.hot_ne z hD⟩
  · obtain ⟨⟨o, e, nt⟩, n⟩ := s.zt a z
    exact ⟨⟨o, upd_keep hD e, nt⟩, n⟩
  · exact (s.cell k c e).mono (Nat.le_refl _) (fun _ _ => rfl) (fun _ z => z) (fun a o _ e => upd_keep hD e) rfl rfl (fun o e => upd_keep hD e) fun _ o e => upd_keep hD e
  · obtain ⟨⟨o, e, _⟩, _⟩ := s.zt D z
    rw [hD] at e; cases e

abbrev XF : XK := fun _ _ _ => False
abbrev Tw (ow : List Nat) : L2.St → L2.St → Prop := fun σ σ' => L2.wipe σ' ow = L2.wipe σ ow
/-- a turn of a comprehension -/
def lcT (fz : Bool) (gt : Val → Env → Store → Res Env) (gc : Env → Store → Res Bool) (ge : Env → Store → Res Val) (ρ : Env) (ow : List Nat) (v : Val) (acc : List Val) (O2 : Store) : Res (List Val × Bool) :=
  noX ((gt v (Mn.wipe ρ ow) O2).bind fun ρ1 O3 => (gc ρ1 O3).bind fun b O4 => match b with
    | true => (ge ρ1 O4).bind fun y O5 => match emb fz y O5 with
      | some (y', O6) => match smallLen (acc.length + 1) with
        | true => .ok (y' :: acc, true) O6
        | false => .bad
      | none => .bad
    | false => .ok (acc, true) O4)
def lcF (kp fz : Bool) (fi : Env → Store → Res Mn.It) (gt : Val → Env → Store → Res Env) (gc : Env → Store → Res Bool) (ge : Env → Store → Res Val) (ow : List Nat) : Env → Store → Res Val := fun ρ O =>
  (fi ρ O).bind fun it O1 => (loopI (itGet it) (lcT fz gt gc ge ρ ow) TURNS 0 [] O1).bind fun acc O2 => ofO2 (newL kp acc.reverse O2)
theorem lc_imp1 {F : Fx} {E : XK} {kp fz : Bool} {gt : Val → Env → Store → Res Env} {gc : Env → Store → Res Bool} {ge : Env → Store → Res Val} {ow : List Nat} {σ : L2.St} {H1 : Hp} {Q : VK} {w1 : Wd} {O1 : Store} {ρ : Env} {it : Mn.It} {J : L2.It}
    (s1 : SOk F w1 O1 H1) (r1 : ROk F w1 O1.length H1 ρ σ) (z1 : Pst F w1 O1 H1 ((loopI (itGet it) (lcT fz gt gc ge ρ ow) TURNS 0 [] O1).bind fun acc O2 => ofO2 (newL kp acc.reverse O2)) (RE F Q) E) (hJ : ItR F w1 O1 H1 it J) :
    ∀ D, H1 D = none → ∃ W : Nat → Nat → Hp → Prop, (∃ m, W 0 m (upd H1 D (.lst []))) ∧ ∀ i m H, W i m H →
      (J.stop i H ∧ Q (.ref D) H) ∨ (J.go i H ∧ ∃ Nx : Hp → Prop, (∀ H', Nx H' → ∃ m', m' < m ∧ W (i + 1) m' H') ∧ ∀ x H', J.yld i H x H' → TGv F XF (Tw ow) gt x (L2.wipe σ ow) H' fun σ2 H2 => L2.wipe σ2 ow = L2.wipe σ ow ∧ TCv F (fun _ => XF) gc σ2 H2 fun b H3 =>
        if b = true then TEv F (fun _ => XF) ge σ2 H3 fun y H4 => ∃ acc, H4 D = some (.lst acc) ∧ acc.length < sizeLine ∧ Nx (upd H4 D (.lst (acc ++ [y]))) else Nx H3) := by
  intro D hD
  refine ⟨fun i m H => ∃ w2 O2 acc xs, SOk F w2 O2 H ∧ Le w1 O1 H1 w2 O2 H ∧ Out w2 O2 D ∧ H D = some (.lst xs) ∧ RpL F w2 O2.length H acc.reverse xs ∧ ROk F w2 O2.length H ρ σ ∧
    Pst F w1 O1 H1 ((loopI (itGet it) (lcT fz gt gc ge ρ ow) m i acc O2).bind fun acc O2 => ofO2 (newL kp acc.reverse O2)) (RE F Q) E, ⟨TURNS, ?_⟩, ?_⟩
  · obtain ⟨q1, q2, q3⟩ := s1.ghost hD (.lst [])
    exact ⟨w1, O1, [], [], q1, q2, q3, upd_same, rfl, r1.le s1 q2, z1⟩
  · rintro i m H2 ⟨w2, O2, acc, xs, s2, l2, o2, d2, a2, r2, z2⟩
    cases m with
    | zero => exact z2.elim
    | succ n =>
      have un : loopI (itGet it) (lcT fz gt gc ge ρ ow) (n + 1) i acc O2 = (match itGet it i O2 with
        | none => .bad
        | some none => .ok acc O2
        | some (some v) => (lcT fz gt gc ge ρ ow v acc O2).bind fun p O1 => match p.2 with
          | true => loopI (itGet it) (lcT fz gt gc ge ρ ow) n (i + 1) p.1 O1
          | false => .ok p.1 O1) := rfl
      rw [un] at z2
      obtain ⟨j1, j2⟩ := hJ w2 O2 H2 s2 l2 i
      split at z2
      · exact z2.elim
      · rename_i hg
        refine .inl ⟨j1 hg, ?_⟩
        have z3 : Pst F w1 O1 H1 (ofO2 (newL kp acc.reverse O2)) (RE F Q) E := z2
        cases en : newL kp acc.reverse O2 with
        | none => rw [en] at z3; exact z3.elim
        | some p =>
          obtain ⟨v, O3⟩ := p
          rw [en] at z3
          obtain ⟨w3, s3, l3, r3⟩ := o2.into d2 s2 a2 hD l2 en
          exact z3 w3 H2 s3 l3 _ r3
      · rename_i v hg
        obtain ⟨jg, jy⟩ := j2 v hg
        refine .inr ⟨jg, fun H' => ∃ w2 O2 acc xs, SOk F w2 O2 H' ∧ Le w1 O1 H1 w2 O2 H' ∧ Out w2 O2 D ∧ H' D = some (.lst xs) ∧ RpL F w2 O2.length H' acc.reverse xs ∧ ROk F w2 O2.length H' ρ σ ∧
          Pst F w1 O1 H1 ((loopI (itGet it) (lcT fz gt gc ge ρ ow) n (i + 1) acc O2).bind fun acc O2 => ofO2 (newL kp acc.reverse O2)) (RE F Q) E, fun H' h => ⟨n, Nat.lt_succ_self _, h⟩, fun x H3 hy => ?_⟩
        obtain ⟨w3, s3, l3, rv⟩ := jy x H3 hy
        obtain ⟨o3, d3⟩ := o2.le d2 (fun _ z => nomatch z) l3
        have L3 := l2.trans l3
        have r3 := r2.le s2 l3
        have a3 := a2.le s2 l3
        rw [Res.bind_assoc] at z2
        have z3 := (Pst.noX (E' := XF) z2.bind0).bind0
        refine ⟨w3, Mn.wipe ρ ow, O2, v, s3, r3.wipe ow, rv, (z3.after L3).imp fun ρ1 w4 O4 H4 s4 l4 z4 σ1 rs1 t1 => ⟨t1.trans (wipe_twice _ _), ?_⟩⟩
        obtain ⟨o4, d4⟩ := o3.le d3 (fun _ z => nomatch z) l4
        have L4 := L3.trans l4
        refine ⟨w4, ρ1, O4, s4, rs1, (z4.bind0.after L4).imp fun b w5 O5 H5 s5 l5 z5 => ?_⟩
        obtain ⟨o5, d5⟩ := o4.le d4 (fun _ z => nomatch z) l5
        have L5 := L4.trans l5
        have r5 := (r3.le s3 l4).le s4 l5
        have a5 := (a3.le s3 l4).le s4 l5
        cases b with
        | false =>
          rw [if_neg Bool.false_ne_true]
          exact ⟨w5, O5, acc, xs, s5, L5, o5, d5, a5, r5, z5.here' s5 L5⟩
        | true =>
          rw [if_pos rfl]
          refine ⟨w5, ρ1, O5, s5, rs1.le s4 l5, (z5.bind0.after L5).imp fun y w6 O6 H6 s6 l6 z6 x6 rx6 => ?_⟩
          obtain ⟨o6, d6⟩ := o5.le d5 (fun _ z => nomatch z) l6
          have L6 := L5.trans l6
          split at z6
          · rename_i y' O7 hE
            obtain ⟨w7, s7, l7, rx7⟩ := emb_step s6 rx6 hE
            obtain ⟨o7, d7⟩ := o6.le d6 (fun _ z => nomatch z) l7
            have L7 := L6.trans l7
            split at z6
            · rename_i hz
              have a7 := (a5.le s5 l6).le s6 l7
              have r7 := (r5.le s5 l6).le s6 l7
              have hl := a7.length
              rw [List.length_reverse] at hl
              have hs := smallLen_le hz
              obtain ⟨u1, u2⟩ := o7.upd (u' := .lst (xs ++ [x6])) d7 (fun _ z => nomatch z) s7
              have L8 := u2 hD L7
              have kk : ∀ a u, w7.Z a → H6 a = some u → upd H6 D (.lst (xs ++ [x6])) a = some u := fun a u za q => by
                rw [upd_ne]
                · exact q
                · intro e
                  subst e
                  exact o7.1 za
              refine ⟨xs, d7, by omega, w7, O7, y' :: acc, xs ++ [x6], u1, L8, o7, upd_same, ?_, ⟨r7.len, fun j u e => ?_⟩, z6.here' u1 L8⟩
              · rw [List.reverse_cons]
                exact RpL.mono (Nat.le_refl _) (fun _ _ => rfl) (fun _ z => z) kk _ _ (a7.append (RpL.one rx7))
              · obtain ⟨q, e1, e2⟩ := r7.get j u e
                exact ⟨q, e1, Rp.mono (Nat.le_refl _) (fun _ _ => rfl) (fun _ z => z) kk _ _ e2⟩
            · exact z6.elim
          · exact z6.elim
theorem lc_imp {F : Fx} {E : L2.St → XK} {kp fz : Bool} {fi : Env → Store → Res Mn.It} {gt : Val → Env → Store → Res Env} {gc : Env → Store → Res Bool} {ge : Env → Store → Res Val} {ow : List Nat} {σ : L2.St} {H : Hp} {Q : VK}
    (z : TEv F E (lcF kp fz fi gt gc ge ow) σ H Q) : tLc (TIv F E fi) (TGv F XF (Tw ow) gt) (TCv F (fun _ => XF) gc) (TEv F (fun _ => XF) ge) ow σ H Q := by
  obtain ⟨w, ρ, O, s, r, z⟩ := z
  unfold lcF at z
  exact ⟨w, ρ, O, s, r, z.bind.imp fun it w1 O1 H1 s1 l1 z1 J hJ => lc_imp1 s1 (r.le s l1) z1 hJ⟩
end Mn
end

section
set_option Elab.async false
set_option linter.all false
set_option maxRecDepth 100000
set_option maxHeartbeats 2000000
/-! M2l: statements. -/
namespace Mn
open PySem PySem.Spec PyProof.Rows L2

def RS (F : Fx) (D : Ends) : Fl → Wd → Store → Hp → Prop := fun fl w O H => match fl with
  | .nx ρ => ∀ σ, ROk F w O.length H ρ σ → D.nx σ H
  | .rt v => ∀ x, Rp F w O.length H v x → D.rt x H
  | .bk ρ => ∀ σ, ROk F w O.length H ρ σ → D.bk σ H
  | .ct ρ => ∀ σ, ROk F w O.length H ρ σ → D.ct σ H
def TSv (F : Fx) (E : XK) (f : Env → Store → Res Fl) : TS := fun D σ H => ∃ w ρ O, SOk F w O H ∧ ROk F w O.length H ρ σ ∧ Pst F w O H (f ρ O) (RS F D) E
section
variable {X : Cx} {F : Fx} {E : XK} {f g h : Env → Store → Res Val} {fs : Env → Store → Res (List Val)} {b1 b2 : Env → Store → Res Fl} {a b c e tg it : Expr} {es : List Expr} {st : Stmt} {sa sb rest : List Stmt} {pos : Pos} {x : Str} {i : Nat}
theorem gs_nil : PSs X [] (TSv F E fun ρ O => .ok (.nx ρ) O) := pss_nil.imp fun D σ H ⟨w, ρ, O, s, r, z⟩ => z.here s σ r
theorem gs_cons (h1 : PS X st (TSv F E b1)) (h2 : PSs X rest (TSv F E b2)) : PSs X (st :: rest) (TSv F E fun ρ O => (b1 ρ O).bind fun fl O1 => match fl with
      | .nx ρ1 => b2 ρ1 O1
      | fl => .ok fl O1) :=
  (pss_cons h1 h2).imp fun D σ H ⟨w, ρ, O, s, r, z⟩ => ⟨w, ρ, O, s, r, z.bind.imp fun fl w1 O1 H1 s1 l1 z1 => by
    cases fl with
    | nx ρ1 => exact fun σ1 rs1 => ⟨w1, ρ1, O1, s1, rs1, z1⟩
    | rt v => exact z1.here s1
    | bk ρ1 => exact z1.here s1
    | ct ρ1 => exact z1.here s1⟩
theorem gs_brk : PS X (.Break pos) (TSv F E fun ρ O => .ok (.bk ρ) O) := ps_break.imp fun D σ H ⟨w, ρ, O, s, r, z⟩ => z.here s σ r
theorem gs_cnt : PS X (.Continue pos) (TSv F E fun ρ O => .ok (.ct ρ) O) := ps_continue.imp fun D σ H ⟨w, ρ, O, s, r, z⟩ => z.here s σ r
theorem gs_ret (he : PE X e (TEv F (fun _ => E) f)) : PS X (.Return (some e) pos) (TSv F E fun ρ O => (f ρ O).bind fun v O1 => .ok (.rt v) O1) :=
  (ps_ret he).imp fun D σ H ⟨w, ρ, O, s, r, z⟩ => TEv.go s r z fun v w1 O1 H1 x s1 r1 l1 rx z1 => z1.here s1 x rx
theorem gs_retN : PS X (.Return none pos) (TSv F E fun _ O => (Res.ok Val.non O).bind fun v O1 => .ok (.rt v) O1) := ps_retN.imp fun D σ H ⟨w, ρ, O, s, r, z⟩ => z.here s .non rfl
theorem gs_expr (he : PE X e (TEv F (fun _ => E) f)) (hs : swapsWith e none pos.line X.env = pure false) : PS X (.Expr e pos) (TSv F E fun ρ O => (f ρ O).bind fun _ O1 => .ok (.nx ρ) O1) :=
  (ps_expr he hs).imp fun D σ H ⟨w, ρ, O, s, r, z⟩ => TEv.go s r z fun v w1 O1 H1 x s1 r1 l1 rx z1 => z1.here s1 σ r1
theorem gs_if (hc : PT X c (TTv F (fun _ => E) f)) (ha : PSs X sa (TSv F E b1)) (hb : PSs X sb (TSv F E b2)) : PS X (.If c sa sb pos) (TSv F E fun ρ O => (f ρ O).bind fun x O1 => match x with
      | .bl true => b1 ρ O1
      | .bl false => b2 ρ O1
      | _ => .bad) :=
  (ps_if hc ha hb).imp fun D σ H ⟨w, ρ, O, s, r, z⟩ => TTv.go s r z fun v w1 O1 H1 s1 r1 l1 z1 => by
    split at z1
    · exact ⟨true, rfl, by rw [if_pos rfl]; exact ⟨w1, ρ, O1, s1, r1, z1⟩⟩
    · exact ⟨false, rfl, by rw [if_neg Bool.false_ne_true]; exact ⟨w1, ρ, O1, s1, r1, z1⟩⟩
    · exact z1.elim
/-- a turn of a while -/
def whT (f : Env → Store → Res Val) (b1 : Env → Store → Res Fl) : Fl → Store → Res (Fl × Bool) := fun fl O1 => match fl with
  | .nx ρ1 => (f ρ1 O1).bind fun x O2 => match x with
    | .bl true => (b1 ρ1 O2).bind fun g O3 => match g with
      | .nx ρ2 => .ok (.nx ρ2, true) O3
      | .ct ρ2 => .ok (.nx ρ2, true) O3
      | .bk ρ2 => .ok (.nx ρ2, false) O3
      | .rt v => .ok (.rt v, false) O3
    | .bl false => .ok (.nx ρ1, false) O2
    | _ => .bad
  | _ => .bad
theorem gs_while (hp : PassesOwn (model X.prog X.w) X.A X.env X.xe) (hc : PT X c (TTv F (fun _ => E) f)) (hb : PSs X sa (TSv F E b1)) : PS X (.While c sa [] pos) (TSv F E fun ρ O => loopW (whT f b1) TURNS (.nx ρ) O) :=
  (ps_while hp hc hb).imp fun D σ H ⟨w, ρ, O, s, r, z⟩ => by
    refine ⟨fun m σ1 H1 => ∃ w2 ρ2 O2, SOk F w2 O2 H1 ∧ Le w O H w2 O2 H1 ∧ ROk F w2 O2.length H1 ρ2 σ1 ∧ Pst F w O H (loopW (whT f b1) m (.nx ρ2) O2) (RS F D) E, ⟨TURNS, w, ρ, O, s, Le.refl, r, z⟩, ?_⟩
    rintro m σ1 H1 ⟨w2, ρ2, O2, s2, l2, r2, z2⟩
    cases m with
    | zero => exact (show False from z2).elim
    | succ n =>
      have z3 : Pst F w O H ((whT f b1 (.nx ρ2) O2).bind fun p O1 => match p.2 with
        | true => loopW (whT f b1) n p.1 O1
        | false => .ok p.1 O1) (RS F D) E := z2
      unfold whT at z3
      dsimp only at z3
      rw [Res.bind_assoc] at z3
      refine ⟨w2, ρ2, O2, s2, r2, (z3.bind0.after l2).imp fun v w3 O3 H3 s3 l3 z4 => ?_⟩
      have L3 := l2.trans l3
      have r3 := r2.le s2 l3
      split at z4
      · refine ⟨true, rfl, ?_⟩
        dsimp only
        rw [if_pos rfl]
        refine ⟨fun σ' H' => ∃ w2 ρ2 O2, SOk F w2 O2 H' ∧ Le w O H w2 O2 H' ∧ ROk F w2 O2.length H' ρ2 σ' ∧ Pst F w O H (loopW (whT f b1) n (.nx ρ2) O2) (RS F D) E, fun σ' H' q => ⟨n, Nat.lt_succ_self _, q⟩, ?_⟩
        rw [Res.bind_assoc] at z4
        refine ⟨w3, ρ2, O3, s3, r3, (z4.bind0.after L3).imp fun fl w4 O4 H4 s4 l4 z5 => ?_⟩
        have L4 := L3.trans l4
        cases fl with
        | nx ρ4 => exact fun σ' rs => ⟨w4, ρ4, O4, s4, L4, rs, z5⟩
        | ct ρ4 => exact fun σ' rs => ⟨w4, ρ4, O4, s4, L4, rs, z5⟩
        | bk ρ4 => exact z5.here' s4 L4
        | rt v4 => exact z5.here' s4 L4
      · refine ⟨false, rfl, ?_⟩
        dsimp only
        rw [if_neg Bool.false_ne_true]
        exact (z4.here' s3 L3) σ1 r3
      · exact z4.elim
/-- a turn of a for -/
def foT (gt : Val → Env → Store → Res Env) (b1 : Env → Store → Res Fl) : Val → Fl → Store → Res (Fl × Bool) := fun v fl O2 => match fl with
  | .nx ρ1 => (gt v ρ1 O2).bind fun ρ2 O3 => (b1 ρ2 O3).bind fun g O4 => match g with
    | .nx ρ3 => .ok (.nx ρ3, true) O4
    | .ct ρ3 => .ok (.nx ρ3, true) O4
    | .bk ρ3 => .ok (.nx ρ3, false) O4
    | .rt v => .ok (.rt v, false) O4
  | _ => .bad
theorem gs_for {fi : Env → Store → Res Mn.It} {gt : Val → Env → Store → Res Env} (hp : PassesOwn (model X.prog X.w) X.A X.env X.xe) (hc : X.calm = true) (hi : PI X tg it (TIv F (fun _ => E) fi)) (hg : PG X tg (TGv F E (fun _ _ => True) gt)) (hb : PSs X sa (TSv F E b1))
    (hs : ∀ x, foldedSetIterable it X.env x = pure x) : PS X (.For tg it sa [] pos) (TSv F E fun ρ O => (fi ρ O).bind fun it O1 => loopI (itGet it) (foT gt b1) TURNS 0 (.nx ρ) O1) :=
  (ps_for hp hc hi hg hb hs).imp fun D σ H ⟨w0, ρ0, O0, s0, r0, z0⟩ => by
    refine ⟨w0, ρ0, O0, s0, r0, z0.bind.imp fun it w O H s l z J hJ => ?_⟩
    have r := r0.le s0 l
    refine ⟨fun i m σ1 H1 => ∃ w2 ρ2 O2, SOk F w2 O2 H1 ∧ Le w O H w2 O2 H1 ∧ ROk F w2 O2.length H1 ρ2 σ1 ∧ Pst F w O H (loopI (itGet it) (foT gt b1) m i (.nx ρ2) O2) (RS F D) E, ⟨TURNS, w, ρ0, O, s, Le.refl, r, z⟩, ?_⟩
    rintro i m σ1 H1 ⟨w2, ρ2, O2, s2, l2, r2, z2⟩
    cases m with
    | zero => exact (show False from z2).elim
    | succ n =>
      have un : loopI (itGet it) (foT gt b1) (n + 1) i (.nx ρ2) O2 = (match itGet it i O2 with
        | none => .bad
        | some none => .ok (.nx ρ2) O2
        | some (some v) => (foT gt b1 v (.nx ρ2) O2).bind fun p O1 => match p.2 with
          | true => loopI (itGet it) (foT gt b1) n (i + 1) p.1 O1
          | false => .ok p.1 O1) := rfl
      rw [un] at z2
      obtain ⟨j1, j2⟩ := hJ w2 O2 H1 s2 l2 i
      split at z2
      · exact (show False from z2).elim
      · rename_i hgt
        exact .inl ⟨j1 hgt, (z2.here' s2 l2) σ1 r2⟩
      · rename_i v hgt
        obtain ⟨jg, jy⟩ := j2 v hgt
        refine .inr ⟨jg, fun σ' H' => ∃ w2 ρ2 O2, SOk F w2 O2 H' ∧ Le w O H w2 O2 H' ∧ ROk F w2 O2.length H' ρ2 σ' ∧ Pst F w O H (loopI (itGet it) (foT gt b1) n (i + 1) (.nx ρ2) O2) (RS F D) E, fun σ' H' q => ⟨n, Nat.lt_succ_self _, q⟩, fun x H' hy => ?_⟩
        obtain ⟨w3, s3, l3, rv⟩ := jy x H' hy
        have L3 := l2.trans l3
        have r3 := r2.le s2 l3
        unfold foT at z2
        dsimp only at z2
        rw [Res.bind_assoc] at z2
        refine ⟨w3, ρ2, O2, v, s3, r3, rv, (z2.bind0.after L3).imp fun ρ4 w4 O4 H4 s4 l4 z4 σ4 rs4 _ => ?_⟩
        have L4 := L3.trans l4
        rw [Res.bind_assoc] at z4
        refine ⟨w4, ρ4, O4, s4, rs4, (z4.bind0.after L4).imp fun fl w5 O5 H5 s5 l5 z5 => ?_⟩
        have L5 := L4.trans l5
        cases fl with
        | nx ρ6 => exact fun σ' rs => ⟨w5, ρ6, O5, s5, L5, rs, z5⟩
        | ct ρ6 => exact fun σ' rs => ⟨w5, ρ6, O5, s5, L5, rs, z5⟩
        | bk ρ6 => exact z5.here' s5 L5
        | rt v6 => exact z5.here' s5 L5

/-! ### assignments -/
abbrev asgF (f : Env → Store → Res Val) (gt : Val → Env → Store → Res Env) : Env → Store → Res Fl := fun ρ O => (f ρ O).bind fun v O1 => (gt v ρ O1).bind fun ρ1 O2 => .ok (.nx ρ1) O2
theorem asg_imp {gt : Val → Env → Store → Res Env} {D : Ends} {σ : L2.St} {H : Hp} (z : TSv F E (asgF f gt) D σ H) : tAsg (TEv F (fun _ => E) f) (TGv F E (fun _ _ => True) gt) D σ H := by
  obtain ⟨w, ρ, O, s, r, z⟩ := z
  exact TEv.go s r z fun v w1 O1 H1 x s1 r1 l1 rx z1 => ⟨w1, ρ, O1, v, s1, r1, rx, z1.bind.imp fun ρ2 w2 O2 H2 s2 l2 z2 σ2 rs2 _ => z2.here s2 σ2 rs2⟩
theorem gs_asg {gt : Val → Env → Store → Res Env} (he : PE X e (TEv F (fun _ => E) f)) (hg : PG X tg (TGv F E (fun _ _ => True) gt)) (hs : swapsWithSole [tg] e pos.line X.env = pure false) (hw : swappedStores [tg] e X.env = pure none)
    (h1 : (assignEach [tg] X.env).map (·.2) = [assign tg X.env]) : PS X (.Assign [tg] e pos) (TSv F E (asgF f gt)) := (ps_asg he hg hs hw h1).imp fun D σ H z => asg_imp z
abbrev nmG (kp : Bool) (i : Nat) : Val → Env → Store → Res Env := fun v ρ O => match kp with
  | true => .ok (ρ.set i (some v)) O
  | false => match Mn.close v O with
    | some (v', O1) => .ok (ρ.set i (some v')) O1
    | none => .bad
theorem name_imp {kp : Bool} {v' : V} {σ : L2.St} {H : Hp} {Q : L2.St → Hp → Prop} (z : TGv F E (fun _ _ => True) (nmG kp i) v' σ H Q) : gName i v' σ H Q := by
  obtain ⟨w, ρ, O, v, s, r, rv, z⟩ := z
  show Q (σ.set i (some v')) H
  cases kp with
  | true => exact (z.here s) _ (r.set i rv) trivial
  | false =>
    dsimp only [nmG] at z
    split at z
    · rename_i u O1 hc
      obtain ⟨w', s', l', r'⟩ := close_step s rv hc
      exact z w' H s' l' _ ((r.le s l').set i r') trivial
    · exact z.elim
theorem tAsg_mono {te : TE} {g g' : TG} {D : Ends} {σ : L2.St} {H : Hp} (h : tAsg te g D σ H) (q : ∀ v σ H Q, g v σ H Q → g' v σ H Q) (mono : ∀ (Q Q' : VK), (∀ v H, Q v H → Q' v H) → te σ H Q → te σ H Q') : tAsg te g' D σ H := mono _ _ (fun v H1 z => q v σ H1 _ z) h
theorem TEv.mono {σ : L2.St} {H : Hp} {E : L2.St → XK} {Q Q' : VK} (h : ∀ v H, Q v H → Q' v H) (z : TEv F E f σ H Q) : TEv F E f σ H Q' := by
  obtain ⟨w, ρ, O, s, r, z⟩ := z
  exact ⟨w, ρ, O, s, r, z.imp fun v w' O' H' s' l' q x rx => h x H' (q x rx)⟩
theorem gs_set {kp : Bool} {p : Pos} (he : PE X e (TEv F (fun _ => E) f)) (hN : X.N.Nodup) (hi : X.N[i]? = some x) (hx : Loc X.env.scope x) (hs : swapsWith e (some (.Name x p)) pos.line X.env = pure false) (hf : X.fn x = true ∨ X.env.scope.names.lookup x = some .local) :
    PS X (.Assign [.Name x p] e pos) (TSv F E (asgF f (nmG kp i))) := (ps_set hN hi hx he hs hf).imp fun D σ H z => tAsg_mono (asg_imp z) (fun _ _ _ _ q => name_imp q) fun Q Q' h q => TEv.mono h q
/-- name = [..] on one line -/
theorem gs_setLc {kp kl fz : Bool} {p lpos : Pos} {elt iter : Expr} {ifs : List Expr} {scope : Scope} {own : List (Str × Nat)} {fi : Env → Store → Res Mn.It} {gt : Val → Env → Store → Res Env} {gc : Env → Store → Res Bool} (hc : X.calm = true) (hN : X.N.Nodup) (hi : X.N[i]? = some x) (hxl : X.env.scope.names.lookup x = some .local)
    (hsw : swapsWith (.ListComp elt [⟨tg, iter, ifs, 0⟩] scope lpos) (some (.Name x p)) pos.line X.env = pure true) (hit : PI X tg iter (TIv F (fun _ => E) fi)) (ok : BlkOk X.N X.env.scope scope own)
    (hg : ∀ (s : Shared) (H : Hp) (C : Addr) (cl : List (Str × Addr)) (fp : List Addr), PG (X.blk s H scope (compEnvC scope cl C X.env) fp) tg (TGv F XF (Tw (own.map (·.2))) gt))
    (ht : ∀ (s : Shared) (H : Hp) (C : Addr) (cl : List (Str × Addr)) (fp : List Addr), PTs (X.blk s H scope (compEnvC scope cl C X.env) fp) ifs (TCv F (fun _ => XF) gc))
    (he : ∀ (s : Shared) (H : Hp) (C : Addr) (cl : List (Str × Addr)) (fp : List Addr), PE (X.blk s H scope (compEnvC scope cl C X.env) fp) elt (TEv F (fun _ => XF) g)) (hs : ∀ x, foldedSetIterable iter X.env x = pure x) :
    PS X (.Assign [.Name x p] (.ListComp elt [⟨tg, iter, ifs, 0⟩] scope lpos) pos) (TSv F E (asgF (lcF kl fz fi gt gc g (own.map (·.2))) (nmG kp i))) :=
  (ps_setLc hc hN hi hxl hsw hit ok hg ht he hs).imp fun D σ H z => by
    have z2 := tAsg_mono (asg_imp z) (fun _ _ _ _ q => name_imp q) fun Q Q' h q => TEv.mono h q
    exact lc_imp z2
theorem ge_lc {E : L2.St → XK} {kl fz : Bool} {lpos : Pos} {elt iter : Expr} {ifs : List Expr} {scope : Scope} {own : List (Str × Nat)} {fi : Env → Store → Res Mn.It} {gt : Val → Env → Store → Res Env} {gc : Env → Store → Res Bool} (hc : X.calm = true) (hN : X.N.Nodup)
    (hit : PI X tg iter (TIv F E fi)) (ok : BlkOk X.N X.env.scope scope own)
    (hg : ∀ (s : Shared) (H : Hp) (C : Addr) (cl : List (Str × Addr)) (fp : List Addr), PG (X.blk s H scope (compEnvC scope cl C X.env) fp) tg (TGv F XF (Tw (own.map (·.2))) gt))
    (ht : ∀ (s : Shared) (H : Hp) (C : Addr) (cl : List (Str × Addr)) (fp : List Addr), PTs (X.blk s H scope (compEnvC scope cl C X.env) fp) ifs (TCv F (fun _ => XF) gc))
    (he : ∀ (s : Shared) (H : Hp) (C : Addr) (cl : List (Str × Addr)) (fp : List Addr), PE (X.blk s H scope (compEnvC scope cl C X.env) fp) elt (TEv F (fun _ => XF) g)) (hs : ∀ x, foldedSetIterable iter X.env x = pure x) :
    PE X (.ListComp elt [⟨tg, iter, ifs, 0⟩] scope lpos) (TEv F E (lcF kl fz fi gt gc g (own.map (·.2)))) := (pe_lc hc hN hit ok hg ht he hs).imp fun σ H Q z => lc_imp z
end
end Mn
end

section
set_option Elab.async false
set_option linter.all false
set_option maxRecDepth 100000
set_option maxHeartbeats 2000000
/-! M2m: pairs stored at once, slots stored, augmented statements, lists reversed. -/
namespace Mn
open PySem PySem.Spec PyProof.Rows L2

/-- names, one after another -/
def parG : List (Bool × Nat) → List Val → Env → Store → Res Env
  | [], [], ρ, O => .ok ρ O
  | (kp, i) :: ns, v :: r, ρ, O => (nmG kp i v ρ O).bind fun ρ1 O1 => parG ns r ρ1 O1
  | _, _, _, _ => .bad
def setsL : List (Bool × Nat) → List V → L2.St → L2.St
  | (_, i) :: ns, x :: r, σ => setsL ns r (σ.set i (some x))
  | _, _, σ => σ
section
variable {X : Cx} {F : Fx} {E : XK} {f g h : Env → Store → Res Val} {fs : Env → Store → Res (List Val)} {a b c e o : Expr} {es : List Expr} {pos : Pos} {x y z : Str} {i j l : Nat}
theorem par_run : ∀ (ns : List (Bool × Nat)) (vs : List Val) (xs : List V) {w : Wd} {O : Store} {H : Hp} {ρ : Env} {σ : L2.St} {R : Env → Wd → Store → Hp → Prop}, SOk F w O H → ROk F w O.length H ρ σ → RpL F w O.length H vs xs → Pst F w O H (parG ns vs ρ O) R E →
    xs.length = ns.length ∧ ∃ w' ρ' O', SOk F w' O' H ∧ Le w O H w' O' H ∧ ROk F w' O'.length H ρ' (setsL ns xs σ) ∧ R ρ' w' O' H
  | [], [], xs, w, O, H, ρ, σ, R, s, r, rv, z => by
    rw [show xs = [] from rv]
    exact ⟨rfl, w, ρ, O, s, Le.refl, r, z.here s⟩
  | [], _ :: _, xs, w, O, H, ρ, σ, R, s, r, rv, z => (show False from z).elim
  | _ :: _, [], xs, w, O, H, ρ, σ, R, s, r, rv, z => (show False from z).elim
  | (kp, i) :: ns, v :: vs, xs, w, O, H, ρ, σ, R, s, r, rv, z => by
    obtain ⟨x, t, e, rx, rt⟩ := rv
    subst e
    unfold parG at z
    cases kp with
    | true =>
      obtain ⟨h1, w', ρ', O', h2, h3, h4, h5⟩ := par_run ns vs t s (r.set i rx) rt (z : Pst F w O H (parG ns vs (ρ.set i (some v)) O) R E)
      exact ⟨by rw [List.length_cons, List.length_cons, h1], w', ρ', O', h2, h3, h4, h5⟩
    | false =>
      dsimp only [nmG] at z
      split at z
      · rename_i u O1 hc
        obtain ⟨w1, s1, l1, rx1⟩ := close_step s rx hc
        have z1 : Pst F w O H (parG ns vs (ρ.set i (some u)) O1) R E := z
        obtain ⟨h1, w', ρ', O', h2, h3, h4, h5⟩ := par_run ns vs t s1 ((r.le s l1).set i rx1) (rt.le s l1) (z1.after l1)
        exact ⟨by rw [List.length_cons, List.length_cons, h1], w', ρ', O', h2, l1.trans h3, h4, h5⟩
      · exact (show False from z).elim
/-- a tuple is taken apart at once -/
def tpG (n : Nat) (t : List Val → Env → Store → Res Env) : Val → Env → Store → Res Env := fun v ρ O => match v with
  | .tup l => (match Nat.beq n l.length with | true => t l ρ O | false => .bad)
  | .lst l => (match Nat.beq n l.length with | true => t l ρ O | false => .bad)
  | _ => .bad
abbrev parF (fs : Env → Store → Res (List Val)) (ns : List (Bool × Nat)) : Env → Store → Res Fl := asgF (fun ρ O => (fs ρ O).bind fun vs O1 => ofO2 (newT vs O1)) (tpG ns.length (parG ns))
theorem par_imp {ns : List (Bool × Nat)} {D : Ends} {σ : L2.St} {H : Hp} (z : TSv F E (parF fs ns) D σ H) : TAv F (fun _ => E) fs σ H fun xs H1 => xs.length = ns.length ∧ D.nx (setsL ns xs σ) H1 := by
  obtain ⟨w, ρ, O, s, r, z⟩ := z
  unfold parF asgF at z
  rw [Res.bind_assoc] at z
  refine TAv.go s r z fun vs w1 O1 H1 xs s1 r1 l1 rx z1 => ?_
  cases en : newT vs O1 with
  | none => rw [en] at z1; exact z1.elim
  | some p =>
    obtain ⟨v, O2⟩ := p
    rw [en] at z1
    unfold newT at en
    split at en
    · cases en
      have z2 : Pst F w1 O1 H1 ((match Nat.beq ns.length vs.length with | true => parG ns vs ρ O1 | false => Res.bad).bind fun ρ1 O2 => Res.ok (Fl.nx ρ1) O2) (RS F D) E := z1
      split at z2
      · obtain ⟨h1, w', ρ', O', h2, h3, h4, h5⟩ := par_run ns vs xs s1 r1 rx z2.bind
        exact ⟨h1, (h5.here h2) _ h4⟩
      · exact z2.elim
    · cases en
theorem gs_par2 {k1 k2 : Bool} {px py pt pt2 : Pos} {kt kt2 : Nat} (hc : X.calm = true) (hN : X.N.Nodup) (hi : X.N[i]? = some x) (hj : X.N[j]? = some y) (hij : i ≠ j)
    (hx : X.env.scope.names.lookup x = some .local) (hy : X.env.scope.names.lookup y = some .local) (ha : PA X [a, b] (TAv F (fun _ => E) fs))
    (hw : swappedStores [.Tuple [.Name x px, .Name y py] kt pt] (.Tuple [a, b] kt2 pt2) X.env = pure (some [x, y]))
    (hs : swapsWithSole [.Tuple [.Name x px, .Name y py] kt pt] (.Tuple [a, b] kt2 pt2) pos.line X.env = pure false) :
    PS X (.Assign [.Tuple [.Name x px, .Name y py] kt pt] (.Tuple [a, b] kt2 pt2) pos) (TSv F E (parF fs [(k1, i), (k2, j)])) :=
  (ps_par hc hN hi hj hij hx hy ha hw hs).imp fun D σ H z => by
    obtain ⟨w, ρ, O, s, r, z⟩ := par_imp z
    refine ⟨w, ρ, O, s, r, z.imp fun vs w' O' H' s' l' q xs rx => ?_⟩
    obtain ⟨h1, h2⟩ := q xs rx
    match xs, h1, h2 with
    | [v, u], _, h2 => exact ⟨v, u, rfl, h2⟩
theorem gs_par3 {k1 k2 k3 : Bool} {px py pz pt pt2 : Pos} {kt kt2 : Nat} (hc : X.calm = true) (hN : X.N.Nodup) (hi : X.N[i]? = some x) (hj : X.N[j]? = some y) (hl : X.N[l]? = some z) (hij : i ≠ j) (hil : i ≠ l) (hjl : j ≠ l)
    (hx : X.env.scope.names.lookup x = some .local) (hy : X.env.scope.names.lookup y = some .local) (hz : X.env.scope.names.lookup z = some .local) (ha : PA X [a, b, c] (TAv F (fun _ => E) fs))
    (hw : swappedStores [.Tuple [.Name x px, .Name y py, .Name z pz] kt pt] (.Tuple [a, b, c] kt2 pt2) X.env = pure (some [x, y, z]))
    (hs : swapsWithSole [.Tuple [.Name x px, .Name y py, .Name z pz] kt pt] (.Tuple [a, b, c] kt2 pt2) pos.line X.env = pure false) :
    PS X (.Assign [.Tuple [.Name x px, .Name y py, .Name z pz] kt pt] (.Tuple [a, b, c] kt2 pt2) pos) (TSv F E (parF fs [(k1, i), (k2, j), (k3, l)])) :=
  (ps_par3 hc hN hi hj hl hij hil hjl hx hy hz ha hw hs).imp fun D σ H z => by
    obtain ⟨w, ρ, O, s, r, z⟩ := par_imp z
    refine ⟨w, ρ, O, s, r, z.imp fun vs w' O' H' s' l' q xs rx => ?_⟩
    obtain ⟨h1, h2⟩ := q xs rx
    match xs, h1, h2 with
    | [v, u, t], _, h2 => exact ⟨v, u, t, rfl, h2⟩
/-! self.f = v in __init__ -/
abbrev fldG (P : Pg) (g : Env → Store → Res Val) (a : Nat) : Val → Env → Store → Res Env := fun v ρ O => (g ρ O).bind fun x O1 => match Mn.close v O1 with
    | some (v', O2) => (match x with
      | .own j => match O2[j]? with
        | some (.ins c fs) => match P.cls[c]? with
          | some k => match k.ats.lookup a with
            | some (.slot i) => .ok ρ (O2.set j (.ins c (fs.set i (some v'))))
            | _ => .bad
          | none => .bad
        | _ => .bad
      | _ => .bad)
    | none => .bad
theorem gs_fld (hK : X.K = F.K) {P : Pg} {p : Pos} (k : AttOk F P x i) (ho : PE X o (TEv F (fun _ => E) g)) (he : PE X e (TEv F (fun _ => E) f)) (hs : swapsWith e (some (.Attribute o x p)) pos.line X.env = pure false) :
    PS X (.Assign [.Attribute o x p] e pos) (TSv F E (asgF f (fldG P g i))) :=
  (SlX.ps_sl ho he hs).imp fun D σ H ⟨w, ρ, O, s, r, z⟩ => TEv.go s r z fun v w1 O1 H1 v' s1 r1 l1 rv z1 => by
    dsimp only [fldG] at z1
    rw [Res.bind_assoc] at z1
    refine TEv.go s1 r1 z1 fun y w2 O2 H2 y' s2 r2 l2 ry z2 => ?_
    split at z2
    · rename_i u O3 hc
      obtain ⟨w3, s3, l3, rv3⟩ := close_step s2 (rv.le s1 l2) hc
      split at z2
      · rename_i q
        split at z2
        · rename_i c fs hq
          split at z2
          · rename_i kc hk
            split at z2
            · rename_i m hm
              obtain ⟨vs, t1, t2, t3⟩ := s3.fld hq m rv3
              obtain ⟨p, hp⟩ := k.slot c kc m hk hm
              have ry3 := ry.le s2 l3
              have z3 : Pst F w2 O2 H2 (Res.ok (Fl.nx ρ) (O3.set q (.ins c (fs.set m (some u))))) (RS F D) E := z2
              refine ⟨_, F.ca c, w3.dx q, p, vs, m, ry3.2, t1, by rw [hK]; exact k.cls c kc hk, by rw [hK]; exact hp, ?_⟩
              have L := l3.trans t3
              exact (z3.here' t2 L) σ (r2.le s2 L)
            · exact (show False from z2).elim
          · exact (show False from z2).elim
        · exact (show False from z2).elim
      · exact (show False from z2).elim
    · exact (show False from z2).elim
/-! op= -/
def ipOk : Bop → Bool
  | .pow => false
  | _ => true
def rIpV (F : Fx) (op : Bop) : TIp := fun x y H Q => ∃ w O a b v O', SOk F w O H ∧ Rp F w O.length H a x ∧ Rp F w O.length H b y ∧ ((∃ i, a = .int i) ∨ ∃ s, a = .str s) ∧ binV false op a b O = some (v, O') ∧
  ∀ w' H' x', SOk F w' O' H' → Le w O H w' O' H' → Rp F w' O'.length H' v x' → Q x' H'
theorem ip_val {op : Bop} (hop : ipOk op = true) : PIp X op.op (rIpV F op) := by
  have int : ∀ op : Bop, (op = .sub ∨ op = .fdiv ∨ op = .mod) → PIp X op.op (rIpV F op) := by
    intro op hop pins s σ H x y v u Q I rx ry ⟨w, O, a, b, r, O', sk, ra, rb, _, e, q⟩
    obtain ⟨i, j, rfl, rfl, rfl, h⟩ := binV_int (by rcases hop with h | h | h <;> simp [h]) e
    rw [show x = .int i from ra] at rx
    rw [show y = .int j from rb] at ry
    obtain ⟨t, rfl⟩ := rx
    obtain ⟨t', rfl⟩ := ry
    rcases h with ⟨rfl, rfl⟩ | ⟨rfl, h1, h2, rfl⟩ | ⟨rfl, h1, rfl⟩ | ⟨rfl, h1, rfl⟩
    · exact isub_int ⟨.int _, H, I.tok _, ⟨_, rfl⟩, q w H _ sk Le.refl rfl⟩
    · exact ifloordiv_int h1 ⟨.int _, H, I.tok _, ⟨_, rfl⟩, q w H _ sk Le.refl rfl⟩ (.inl h2)
    · exact imod_int h1 ⟨.int _, H, I.tok _, ⟨_, rfl⟩, q w H _ sk Le.refl rfl⟩
    · rcases hop with h | h | h <;> cases h
  cases op with
  | sub => exact int _ (.inl rfl)
  | fdiv => exact int _ (.inr (.inl rfl))
  | mod => exact int _ (.inr (.inr rfl))
  | pow => cases hop
  | add =>
    intro pins s σ H x y v u Q I rx ry ⟨w, O, a, b, r, O', sk, ra, rb, hab, e, q⟩
    rcases binV_add_list e with ⟨i, j, rfl, rfl, rfl, rfl⟩ | ⟨i, j, rfl, rfl, hl, rfl, rfl⟩ | ⟨l, m, rfl, rfl, e9⟩ | ⟨l, m, h1, h2, e9⟩
    · exact iop_add pins s σ H x y v u Q I rx ry ⟨i, j, ra, rb, q w H _ sk Le.refl rfl⟩
    · exact iop_add_str pins s σ H x y v u Q I rx ry ⟨i, j, ra, rb, smallLen_le hl, q w H _ sk Le.refl rfl⟩
    · rcases hab with ⟨_, h⟩ | ⟨_, h⟩ <;> cases h
    · rcases hab with ⟨_, h⟩ | ⟨_, h⟩ <;> subst h <;> cases h1
  | mul =>
    intro pins s σ H x y v u Q I rx ry ⟨w, O, a, b, r, O', sk, ra, rb, hab, e, q⟩
    rcases binV_mul_list e with ⟨i, j, rfl, rfl, hm, rfl, rfl⟩ | ⟨l, n, rfl, rfl, _⟩ | ⟨l, n, h1, rfl, h2, h3, e9⟩
    · rw [show x = .int i from ra] at rx
      rw [show y = .int j from rb] at ry
      obtain ⟨t, rfl⟩ := rx
      obtain ⟨t', rfl⟩ := ry
      exact imul_int ⟨.int _, H, I.tok _, ⟨_, rfl⟩, q w H _ sk Le.refl rfl⟩ (mulOk_ok hm)
    · rcases hab with ⟨_, h⟩ | ⟨_, h⟩ <;> cases h
    · rcases hab with ⟨_, h⟩ | ⟨_, h⟩ <;> subst h <;> cases h1
theorem gs_aug {op : Bop} {p : Pos} (hop : ipOk op = true) (hN : X.N.Nodup) (hi : X.N[i]? = some x) (hx : Loc X.env.scope x) (he : PE X e (TEv F (fun _ => E) f)) (hf : X.fn x = true ∨ X.env.scope.names.lookup x = some .local) :
    PS X (.AugAssign (.Name x p) op.op e pos) (TSv F E fun ρ O => match ρ[i]? with
    | some (some (.int x)) => (f ρ O).bind fun y O1 => (ofO2 (binV false op (.int x) y O1)).bind fun z O2 => .ok (.nx (ρ.set i (some z))) O2
    | some (some (.str x)) => (f ρ O).bind fun y O1 => (ofO2 (binV false op (.str x) y O1)).bind fun z O2 => .ok (.nx (ρ.set i (some z))) O2
    | _ => .bad) :=
  (ps_aug hN hi hx he (ip_val (F := F) hop) hf).imp fun D σ H ⟨w, ρ, O, s, r, z⟩ => by
    dsimp only at z
    have key : ∀ a : Val, ((∃ i, a = .int i) ∨ ∃ s, a = .str s) → ρ[i]? = some (some a) → Pst F w O H ((f ρ O).bind fun y O1 => (ofO2 (binV false op a y O1)).bind fun z O2 => .ok (.nx (ρ.set i (some z))) O2) (RS F D) E → tAug i (TEv F (fun _ => E) f) (rIpV F op) D σ H := fun a ha hρ z => by
      obtain ⟨x', h1, h2⟩ := r.get i a hρ
      refine ⟨x', h1, TEv.go s r z fun y w1 O1 H1 y' s1 r1 l1 ry z1 => ?_⟩
      cases e : binV false op a y O1 with
      | none => rw [e] at z1; exact z1.elim
      | some p =>
        obtain ⟨v, O2⟩ := p
        rw [e] at z1
        exact ⟨w1, O1, a, y, v, O2, s1, h2.le s l1, ry, ha, e, fun w' H' x'' s' l' rx' => (Pst.here' z1 s' l') _ ((r1.le s1 l').set i rx')⟩
    split at z
    · rename_i k hk
      exact key (.int k) (.inl ⟨k, rfl⟩) hk z
    · rename_i k hk
      exact key (.str k) (.inr ⟨k, rfl⟩) hk z
    · exact (show False from z).elim
theorem gs_augS {op : Bop} {p : Pos} (hop : ipOk op = true) (ho : PE X o (TEv F (fun _ => E) f)) (hi : PE X c (TEv F (fun _ => E) g)) (he : PE X e (TEv F (fun _ => E) h))
    (ha : ∀ ov iv new, augStore c ov iv new = (do holding [new, ov, iv] (setItem ov iv new); release [new, ov, iv] []; pure .next)) :
    PS X (.AugAssign (.Subscript o c p) op.op e pos) (TSv F E fun ρ O => (f ρ O).bind fun x O1 => (g ρ O1).bind fun y O2 => (ofO (idxL x y O2) O2).bind fun w O3 => match w with
    | .int n => (h ρ O3).bind fun z O4 => (ofO2 (binV false op (.int n) z O4)).bind fun r O5 => match setV true x y r O5 with
      | some O6 => .ok (.nx ρ) O6
      | none => .bad
    | _ => .bad) :=
  (ps_augS ho hi (get_val (F := F)) he (ip_val (F := F) hop) (set_val (F := F) (fz := true)) ha).imp fun D σ H ⟨w, ρ, O, s, r, z⟩ => TEv.go s r z fun v w1 O1 H1 v' s1 r1 l1 rv z1 => TEv.go s1 r1 z1 fun y w2 O2 H2 y' s2 r2 l2 ry z2 => by
    cases ei : idxL v y O2 with
    | none => rw [ei] at z2; exact z2.elim
    | some u =>
      rw [ei] at z2
      have rv2 := rv.le s1 l2
      refine ⟨w2, O2, v, y, u, s2, rv2, ry, ei, fun u' ru => ?_⟩
      have z3 : Pst F w2 O2 H2 (match u with
        | .int n => (h ρ O2).bind fun z O4 => (ofO2 (binV false op (.int n) z O4)).bind fun r O5 => match setV true v y r O5 with
          | some O6 => Res.ok (.nx ρ) O6
          | none => .bad
        | _ => .bad) (RS F D) E := z2
      split at z3
      · rename_i n
        refine TEv.go s2 r2 z3 fun t w4 O4 H4 t' s4 r4 l4 rt z4 => ?_
        cases eb : binV false op (.int n) t O4 with
        | none => rw [eb] at z4; exact z4.elim
        | some p =>
          obtain ⟨q, O5⟩ := p
          rw [eb] at z4
          have z5 : Pst F w4 O4 H4 (match setV true v y q O5 with
            | some O6 => Res.ok (.nx ρ) O6
            | none => .bad) (RS F D) E := z4
          refine ⟨w4, O4, .int n, t, q, O5, s4, ru.le s2 l4, rt, .inl ⟨n, rfl⟩, eb, fun w5 H5 q' s5 l5 rq => ?_⟩
          split at z5
          · rename_i O6 hs
            refine ⟨w5, O5, v, y, q, O6, s5, (rv2.le s2 l4).le s4 l5, (ry.le s2 l4).le s4 l5, rq, hs, fun w6 H6 s6 l6 => ?_⟩
            have L := l5.trans l6
            exact (z5.here' s6 L) σ (r4.le s4 L)
          · exact z5.elim
      · exact z3.elim
/-! xs[::-1] -/
theorem ge_rev {E : L2.St → XK} {kp : Bool} {k : Nat} {p1 p2 p3 : Pos} (he : PE X e (TEv F E f)) :
    PE X (.Subscript e (.Slice none none (some (.UnaryOp .USub (.Constant (.int 1) k p1) p2)) p3) pos) (TEv F E fun ρ O => (f ρ O).bind fun x O1 => ofO2 (revV kp x O1)) :=
  (pe_revL he).imp fun σ H Q ⟨w, ρ, O, s, r, z⟩ => ⟨w, ρ, O, s, r, z.bind.impE fun v w1 O1 H1 ef s1 l1 z1 x rx => by
    cases er : revV kp v O1 with
    | none => rw [er] at z1; exact z1.elim
    | some p =>
      obtain ⟨u, O2⟩ := p
      rw [er] at z1
      unfold revV at er
      split at er
      · cases er
      · split at er
        · rename_i l hll
          obtain ⟨q, xs, e1, e2, e3⟩ := rx.listOf s1 hll
          obtain ⟨_, st⟩ := newL_step s1 e3.reverse er
          rw [e1]
          refine ⟨q, xs, rfl, .of e2, fun p hp => ?_⟩
          obtain ⟨w', s', l', r'⟩ := st p hp
          exact z1 w' _ s' l' _ r'
        · cases er⟩
end
end Mn
end

section
set_option Elab.async false
set_option linter.all false
set_option maxRecDepth 100000
set_option maxHeartbeats 2000000
/-! M2n: next over a generator expression that drops one number, with a default. -/
namespace Mn
open PySem PySem.Spec PyProof.Rows L2

section
variable {X : Cx} {pins : List (Addr × Obj)} {σ : L2.St} {H : Hp} {s : Shared}
/-- the places that are kept -/
def pzK (k : Int) (zs : List Int) (i : Nat) : Bool := match zs[i]? with
  | some z => z != k
  | none => false
/-- a generator that walks the kept numbers -/
def GenRdy (X : Cx) (pins : List (Addr × Obj)) (σ : L2.St) (H1 : Hp) (P : Addr) (k : Int) (zs : List Int) (g : Addr) (s5 : Shared) : Prop :=
  ∃ (fp wr : List Addr) (G : Array GenState → Array GenState → Prop) (F : Nat → Value → Prop) (Sx : Nat → Shared → Prop),
    WalksS X.prog X.w X.A.in1 g fp wr G (passing (pzK k zs) zs.length 0).length F Sx ∧ Sx 0 s5 ∧ s5.TypeIs (.ref g) "generator" ∧
    (∀ y, F 0 y → ∃ (i : Nat) (z : Int) (t : Tok), (passing (pzK k zs) zs.length 0)[0]? = some i ∧ zs[i]? = some z ∧ y = .int z t) ∧
    ∀ (tk : Nat) (s6 : Shared), Moved wr G { s5 with toks := tk } s6 → ∃ H2, GxR.Tabbed P H1 H2 ∧ Inv X pins σ H2 s6
theorem ints_get {zs : List Int} {its : List Value} (r : Vals (zs.map V.int) its) {i : Nat} {v : Value} (h : its[i]? = some v) : ∃ z t, zs[i]? = some z ∧ v = .int z t := by
  have hi : i < its.length := (List.getElem?_eq_some_iff.mp h).1
  have hl : zs.length = its.length := by have := r.length; rwa [List.length_map] at this
  have e : zs[i]? = some zs[i] := List.getElem?_eq_getElem (by omega)
  obtain ⟨u, h1, h2⟩ := r.get (i := i) (x := .int zs[i]) (by rw [List.getElem?_map, e]; rfl)
  rw [h] at h1
  cases h1
  obtain ⟨t, ht⟩ := h2
  exact ⟨_, t, e, ht⟩
theorem gen_sq {c P : Addr} {iter : Expr} {x : Str} {px gpos p1 p2 p3 p4 : Pos} {j : Nat} {k0 : Int} {scope : Scope} {te : TE} {k : Nat} {Q' : Value → Shared → Prop} {R : List Int → Hp → Prop}
    (hr : Room k X.A) (TB : GxR.TabB X.base X.mg c P) (hcode : X.env.code = .ref c) (S : GxR.GenS X.env scope x) (hx : (x == ("__debug__" : Str)) = false) (hi : PE X iter te)
    (hs : ∀ v, genFold iter X.env v = pure v) (I : Inv X pins σ H s) (h : te σ H fun v H1 => ∃ b q zs, v = .ref q ∧ SqB X.K b H1 q (zs.map V.int) ∧ GxR.TabG H1 P ∧ R zs H1)
    (hQ : ∀ zs H1 g s5, R zs H1 → GenRdy X pins σ H1 P k0 zs g s5 → Q' (.ref g) s5) :
    wpAny (model X.prog X.w) X.A (eval (.GeneratorExp (.Name x p3) [⟨.Name x px, iter, [.Compare (.Name x p1) [.NotEq] [.Constant (.int k0) j p2] p4], 0⟩] scope gpos) X.env) Q' X.xe s := by
  refine wpAny_GeneratorExp_walksQ hr.hd S.co (closure_ok S.free) S.cell S.dot S.loc S.kind (by have := hr.dp; omega) ?_ hs
  refine thn (hi.run pins s σ H _ I h) fun xv s1 ⟨v, H1, I1, r1, q1⟩ => ?_
  obtain ⟨b, q, zs, rfl, hq, ⟨ps, hP, ht⟩, hR⟩ := q1
  obtain rfl : xv = Value.ref q := r1
  obtain ⟨its, rv, ob0⟩ := Mn.Inv.seqB I1 hq
  have hlen : zs.length = its.length := by have := rv.length; rwa [List.length_map] at this
  have hPs : s1.heap.get? P = some { cls := .none, data := .fields ps } := I1.hok P _ hP
  have main : ∀ (o : Obj) (Sx : Nat → Heap → Prop), q < s1.heap.objs.size → (∀ A' : Around, A'.handled = none → Walks X.prog X.w A' s1.heap.objs.size [s1.heap.objs.size, q] [s1.heap.objs.size] its.toArray.size (fun i v => its.toArray[i]? = some v) Sx) →
      Sx 0 (s1.heap.push o) → (s1.heap.push o).NoLimit ∧ wpAny (model X.prog X.w) X.A (genexprCode X.env gpos (X.env.qual ++ "<genexpr>") scope) (fun code s₃ => wpAny (model X.prog X.w) X.A (builtinsFor X.env.globals X.env.builtins) (fun bi s₄ =>
        ∃ Ia fp wr n₀ Pf St₀ pz F, Value.ref s1.heap.objs.size = .ref Ia ∧ (∀ A' : Around, A'.handled = none → Walks X.prog X.w A' Ia fp wr n₀ Pf St₀) ∧ St₀ 0 s₄.heap ∧ (∀ b ∈ fp, b < s₄.heap.objs.size) ∧ s₄.heap.NoLimit ∧ cStatics ∉ wr ∧
          (∀ href : Heap, (∀ b o, s₄.heap.get? b = some o → href.get? b = some o) →
            QuietGen X.prog X.w (genEnv scope (cloFrom X.env.cells scope.names []) s₄.heap.objs.size code bi X.env) x [.Compare (.Name x p1) [.NotEq] [.Constant (.int k0) j p2] p4] (.Name x p3) (List.range s₄.heap.objs.size) wr Pf pz F href) ∧
          (∀ a h₅ tk gs, gs.bare = true → s₄.heap.objs.size < a → h₅.objs.size = a + 1 → (∀ b o, s₄.heap.get? b = some o → h₅.get? b = some o) →
            WalksS X.prog X.w X.A.in4 a (a :: s₄.heap.objs.size :: List.range s₄.heap.objs.size) (s₄.heap.objs.size :: wr) (GenOnlyQ s₄.gens.size) (passing pz n₀ 0).length
              (fun j y => ∃ i, (passing pz n₀ 0)[j]? = some i ∧ F i y) (GenAt X.prog X.w X.A.in4 a s₄.gens.size s₄.heap.objs.size (List.range s₄.heap.objs.size) wr pz n₀ F) →
            GenAt X.prog X.w X.A.in4 a s₄.gens.size s₄.heap.objs.size (List.range s₄.heap.objs.size) wr pz n₀ F 0 { s₄ with gens := s₄.gens.push gs, toks := tk, heap := h₅ } →
            Q' (.ref a) { s₄ with gens := s₄.gens.push gs, toks := tk, heap := h₅ })) X.xe s₃) X.xe { s1 with heap := s1.heap.push o } := by
    intro o Sx hql W hst
    have hPlt : P < s1.heap.objs.size := Heap.lt_size hPs
    have hP2 : (s1.heap.push o).get? P = some { cls := .none, data := .fields ps } := Heap.get?_push_of_some _ hPs
    have cdh : PySem.W.CodeHd (s1.heap.push o) c P := TB.code.keeps fun b u e => Heap.get?_push_of_some _ (I1.bk b u e)
    have lim2 : (s1.heap.push o).NoLimit := I1.nolimit.push o
    refine ⟨lim2, ?_⟩
    have sz2 : (s1.heap.push o).objs.size = s1.heap.objs.size + 1 := Heap.size_push ..
    have fin : ∀ (code : Value) (hb3 : Heap) (tk3 : Nat) (ps3 : Array Value), Heap.ExtBut P (s1.heap.push o) hb3 → (s1.heap.push o).objs.size ≤ hb3.objs.size → hb3.get? P = some { cls := .none, data := .fields ps3 } → (∃ more, ps3 = ps ++ more) → TriplesOk ps3.toList →
        wpAny (model X.prog X.w) X.A (builtinsFor X.env.globals X.env.builtins) (fun bi s₄ =>
        ∃ Ia fp wr n₀ Pf St₀ pz F, Value.ref s1.heap.objs.size = .ref Ia ∧ (∀ A' : Around, A'.handled = none → Walks X.prog X.w A' Ia fp wr n₀ Pf St₀) ∧ St₀ 0 s₄.heap ∧ (∀ b ∈ fp, b < s₄.heap.objs.size) ∧ s₄.heap.NoLimit ∧ cStatics ∉ wr ∧
          (∀ href : Heap, (∀ b o, s₄.heap.get? b = some o → href.get? b = some o) →
            QuietGen X.prog X.w (genEnv scope (cloFrom X.env.cells scope.names []) s₄.heap.objs.size code bi X.env) x [.Compare (.Name x p1) [.NotEq] [.Constant (.int k0) j p2] p4] (.Name x p3) (List.range s₄.heap.objs.size) wr Pf pz F href) ∧
          (∀ a h₅ tk gs, gs.bare = true → s₄.heap.objs.size < a → h₅.objs.size = a + 1 → (∀ b o, s₄.heap.get? b = some o → h₅.get? b = some o) →
            WalksS X.prog X.w X.A.in4 a (a :: s₄.heap.objs.size :: List.range s₄.heap.objs.size) (s₄.heap.objs.size :: wr) (GenOnlyQ s₄.gens.size) (passing pz n₀ 0).length
              (fun j y => ∃ i, (passing pz n₀ 0)[j]? = some i ∧ F i y) (GenAt X.prog X.w X.A.in4 a s₄.gens.size s₄.heap.objs.size (List.range s₄.heap.objs.size) wr pz n₀ F) →
            GenAt X.prog X.w X.A.in4 a s₄.gens.size s₄.heap.objs.size (List.range s₄.heap.objs.size) wr pz n₀ F 0 { s₄ with gens := s₄.gens.push gs, toks := tk, heap := h₅ } →
            Q' (.ref a) { s₄ with gens := s₄.gens.push gs, toks := tk, heap := h₅ })) X.xe { s1 with heap := hb3, toks := tk3 } := by
      intro code hb3 tk3 ps3 hxt hsz hP3 hmore ht3
      obtain ⟨bm, ob, f1, f2, f3, f4, f5, f6, f7, f8⟩ := TB.bm
      have hcP : cStatics ≠ P := fun e => by
        obtain ⟨_, hns, _⟩ := I1.nolimit
        obtain ⟨oo, es, ep, hoo, hdd, _⟩ := hns
        rw [e, hPs] at hoo
        cases hoo
        cases hdd
      have hcl : cStatics < s1.heap.objs.size := by
        obtain ⟨_, hns, _⟩ := I1.nolimit
        exact hns.lt
      have kept : ∀ d u, d ≠ P → s1.heap.get? d = some u → hb3.get? d = some u := fun d u hd e => hxt d u hd (Heap.get?_push_of_some _ e)
      refine wpAny_builtinsFor (m := X.mg) (by rw [I1.ok.glob]; exact ((I1.mod.glob.keeps I1.bk).push o).extBut hxt TB.gP) f1 f2 (kept _ _ f4 (I1.bk _ _ f5)) f6 f7 f8 ?_
      refine ⟨s1.heap.objs.size, [s1.heap.objs.size, q], [s1.heap.objs.size], its.toArray.size, (fun i v => its.toArray[i]? = some v), Sx, pzK k0 zs, (fun i y => ∃ z t, zs[i]? = some z ∧ y = .int z t), rfl, W, ?_, ?_, lim2.extBut hxt hcP, ?_, ?_, ?_⟩
      · refine (W X.A hr.hd).frame _ _ _ hst fun d hd u e => hxt d u (fun z => ?_) e
        rcases List.mem_cons.mp hd with z2 | z2
        · exact Nat.ne_of_lt hPlt (z.symm.trans z2)
        · have z3 : d = q := List.mem_singleton.mp z2
          obtain ⟨oq, nq, g1, g2, g3⟩ := OfB.obj ob0
          rw [← z3, z, hPs] at g1
          cases g1
          cases g2
      · intro d hd
        rcases List.mem_cons.mp hd with z | z
        · rw [z]
          show s1.heap.objs.size < hb3.objs.size
          omega
        · rw [List.mem_singleton.mp z]
          exact Nat.lt_of_lt_of_le hql (show s1.heap.objs.size ≤ hb3.objs.size by omega)
      · intro z
        exact Nat.ne_of_lt hcl (List.mem_singleton.mp z)
      · intro href hhref
        have ld : ∀ (cenv : PySem.Env) (_ : cenv.scope = scope) (A' : Around) (E' : Value → Shared → Prop) (v : Value) (s₂ : Shared) (m₂ : Str → Option Value) (pp : Pos) (QQ : Value → Shared → Prop), s₂.heap.Ns cenv.locals m₂ → m₂ x = some v → QQ v s₂ →
            wpAny (model X.prog X.w) A' (eval (.Name x pp) cenv) QQ E' s₂ := fun cenv hcs A' E' v s₂ m₂ pp QQ hn hm hq =>
          wpAny_Name (wpAny_loadName_local (by rw [hcs]; exact S.kind) (show cenv.scope.names.lookup x = some .local by rw [hcs]; exact S.loc) hn hm hq) hx
        refine ⟨fun A' E' i v s₂ m₂ hA hPv hn hm hk => ?_, fun A' E' i v s₂ m₂ hA hPv hp hn hm hk => ?_⟩
        · obtain ⟨z, t, hz, rfl⟩ := ints_get rv (i := i) (v := v) (by simpa using hPv)
          refine wpAny_tests_one (wpAny_isTrue_Compare1 (ld _ rfl A' E' _ s₂ m₂ _ _ hn hm (wpAny_Constant_int (IsLeap.wpAny_ne_int (wpAny_truthy_bool ⟨?_, GxR.keeps_tok _ _⟩)))) rfl)
          unfold pzK
          rw [hz]
        · obtain ⟨z, t, hz, rfl⟩ := ints_get rv (i := i) (v := v) (by simpa using hPv)
          exact ld _ rfl A' E' _ s₂ m₂ _ _ hn hm ⟨⟨z, t, hz, rfl⟩, GxR.keeps_refl _⟩
      · intro g h5 tk5 gs hgb hag hsz5 hk5 W5 hat
        have en : its.toArray.size = zs.length := by rw [List.size_toArray, hlen]
        rw [en] at W5 hat
        refine hQ zs H1 g _ hR ⟨_, _, _, _, _, W5.in4_1, hat, ?_, fun y hy => ?_, fun tk6 s6 hmv => ?_⟩
        · obtain ⟨og, n1, n2, a1, a2, _⟩ := hat.1
          exact ⟨og, a1, a2⟩
        · obtain ⟨i, e1, z, t, e2, e3⟩ := hy
          exact ⟨i, z, t, e1, e2, e3⟩
        · obtain ⟨more, em⟩ := hmore
          have nwr : ∀ d u, s1.heap.get? d = some u → d ∉ hb3.objs.size :: [s1.heap.objs.size] := fun d u e hd => by
            have hl := Heap.lt_size e
            rcases List.mem_cons.mp hd with z | z
            · have h9 : (hb3.objs.size : Nat) < s1.heap.objs.size := by rw [← z]; exact hl
              omega
            · have z3 : d = s1.heap.objs.size := List.mem_singleton.mp z
              rw [z3] at hl
              exact Nat.lt_irrefl _ hl
          have J := GxR.inv_tab (more := more) (h' := s6.heap) (g' := s6.gens) (d' := s6.drawn) (t' := s6.toks) I1 hP (fun d u hd e => hmv.heap d u (nwr d u e) (hk5 d u (kept d u hd e)))
            (by rw [← em]; exact hmv.heap P _ (nwr P _ hPs) (hk5 P _ hP3)) (AllBare.movedS (I1.bare.push hgb) hmv)
          rw [GxR.sh_eta s1 s6 hmv.os] at J
          exact ⟨upd H1 P (.tbl (ps ++ more)), ⟨⟨ps ++ more, upd_same, by rw [← em]; exact ht3⟩, fun d hd => upd_ne hd⟩, J⟩
    cases hfd : codeAmong gpos ps.toList with
    | none =>
      refine wpAny_genexprCodeX hcode (cdh.code hP2 ht) (cdh.tab hP2) hfd fun c' h' tk hx2 hge hlt hco' _ htab' _ => ?_
      obtain ⟨o1, vs, g1, tf, fl, tg, inF, tx, tt, op, _, _, _, _, _, _, _, _, _, htr, _⟩ := hco'
      exact fin _ h' tk _ hx2 (Nat.le_trans hge (Nat.le_of_lt hlt)) htab'.2 ⟨_, rfl⟩ htr
    | some cv =>
      refine wpAny_genexprCode_hit hcode (cdh.code hP2 ht) hfd ?_
      exact fin cv (s1.heap.push o) s1.toks ps (Heap.ExtBut.refl _ _) (Nat.le_refl _) hP2 ⟨#[], by simp⟩ ht
  have hql : q < s1.heap.objs.size := by
    obtain ⟨oq, nq, g1, _⟩ := OfB.obj ob0
    exact Heap.lt_size g1
  have hne : q ≠ s1.heap.objs.size := Nat.ne_of_lt hql
  cases b with
  | true => exact wpAny_pyIter_list ob0 (main _ _ hql (fun A' hA => Walks.list hA s1.heap.objs.size q hne its.toArray) ⟨⟨_, Heap.get?_push_size _ rfl, rfl, rfl⟩, Heap.IsList.at ob0 fun o e => Heap.get?_push_of_some _ e⟩)
  | false => exact wpAny_pyIter_tuple ob0 (main _ _ hql (fun A' hA => Walks.tuple hA s1.heap.objs.size q hne its.toArray) ⟨⟨_, Heap.get?_push_size _ rfl, rfl, rfl⟩, Heap.IsTuple.at ob0 fun o e => Heap.get?_push_of_some _ e⟩)
theorem range_find (k : Int) : ∀ zs : List Int, (match ((List.range zs.length).filter (pzK k zs))[0]? with
    | some i => ∃ z, zs[i]? = some z ∧ zs.find? (fun n => n != k) = some z
    | none => zs.find? (fun n => n != k) = none)
  | [] => rfl
  | a :: zs => by
    have ih := range_find k zs
    rw [List.length_cons, List.range_succ_eq_map, List.filter_cons, List.filter_map]
    have e : (pzK k (a :: zs) ∘ Nat.succ) = pzK k zs := rfl
    rw [e]
    have e0 : pzK k (a :: zs) 0 = (a != k) := rfl
    rw [e0, List.find?_cons]
    cases ha : (a != k) with
    | true => exact ⟨a, rfl, rfl⟩
    | false =>
      simp only [Bool.false_eq_true, if_false, List.getElem?_map]
      cases h0 : ((List.range zs.length).filter (pzK k zs))[0]? with
      | none => rw [h0] at ih; exact ih
      | some i => rw [h0] at ih; exact ih
theorem call_nextG {prog : Program} {w : World} {A : Around} {E : Value → Shared → Prop} {st : Shared} {g : Addr} {dv : Value} {Q : Value → Shared → Prop} (hT : st.TypeIs (.ref g) "generator")
    (h : wpAny (model prog w) A.in1 (pyNext (.ref g)) (fun r s' => Q (r.getD dv) s') E st) : wpAny (model prog w) A (call (.builtin "next") [.ref g, dv]) Q E st := by
  refine Calls.call_function_entry (by decide +kernel) (by decide +kernel) PySem.W.kdk_entry_next (PySem.W.kdk_args_next2 _ _) ?_
  unfold Builtin.«next»
  refine wpAny_bind (m := someArgs "next" 1 2 _) (wpAny_of_eq (a := [Value.ref g, dv]) (by first | rfl | kernel_rfl!) ?_)
  dsimp only
  refine wpAny_bind (wpAny_specialOf (name := Str.ofString "__next__") hT slot_gen_next.lookup ?_)
  refine wpAny_ite_split (fun hab => absurd hab (by decide)) (fun _ => ?_)
  exact wpAny_bind (wpAny_mono h (fun r s' hq => wpAny_pure ⟨_, rfl, hq⟩) fun _ _ z => z)
theorem SOk.tbl {F : Fx} {w : Wd} {O : Store} {H H2 : Hp} {P : Addr} (s : SOk F w O H) (hP : GxR.TabG H P) (hT : ∀ q, (P, some q) ∉ F.T) (t : GxR.Tabbed P H H2) : SOk F w O H2 ∧ Le w O H w O H2 := by
  obtain ⟨ps, hp, _⟩ := hP
  have ne : ∀ a o, H a = some o → NT o → a ≠ P := fun a o e nt z => by
    rw [z, hp] at e
    cases e
    exact nt ps rfl
  have keep : ∀ a o, H a = some o → NT o → H2 a = some o := fun a o e nt => by rw [t.2 a (ne a o e nt)]; exact e
  have keepZ : ∀ a u, w.Z a → H a = some u → H2 a = some u := fun a u z e => by
    obtain ⟨⟨o, e', nt⟩, _⟩ := s.zt a z
    rw [e] at e'
    cases e'
    exact keep a u e nt
  refine ⟨⟨fun a z => ?_, fun p hpT => ?_, fun k c e => ?_, s.inj⟩, ⟨Nat.le_refl _, fun _ _ => ⟨rfl, rfl⟩, fun _ z => z, fun a o e _ nt => keep a o e nt, fun _ z => .inl z, fun _ z => .inl z, fun a o e => ?_⟩⟩
  · obtain ⟨⟨o, e, nt⟩, n⟩ := s.zt a z
    exact ⟨⟨o, keep a o e nt, nt⟩, n⟩
  · by_cases h : p.1 = P
    · obtain ⟨qs, h1, h2⟩ := t.1
      refine ⟨qs, by rw [h]; exact h1, h2, fun q hq => (hT q ?_).elim⟩
      rw [← h, ← hq]
      exact hpT
    · obtain ⟨qs, h1, h2, h3⟩ := s.tab p hpT
      refine ⟨qs, by rw [t.2 _ h]; exact h1, h2, fun q hq pos cv e => ?_⟩
      obtain ⟨c, e1, e2, e3⟩ := h3 q hq pos cv e
      exact ⟨c, e1, e2, keepZ c _ e2 e3⟩
  · have c1 := s.cell k c e
    obtain ⟨⟨o1, q1, n1⟩, h2⟩ := c1.there
    refine c1.mono (Nat.le_refl _) (fun _ _ => rfl) (fun _ z => z) keepZ rfl rfl (fun u q => keep _ u q ?_) fun hc u q => ?_
    · rw [q1] at q; cases q; exact n1
    · obtain ⟨o2, q2, n2⟩ := h2 hc
      refine keep _ u q ?_
      rw [q2] at q; cases q; exact n2
  · by_cases h : a = P
    · obtain ⟨qs, h1, _⟩ := t.1
      exact ⟨_, by rw [h]; exact h1⟩
    · exact ⟨o, by rw [t.2 a h]; exact e⟩
theorem ints_rp {F : Fx} {w : Wd} {n : Nat} {H : Hp} : ∀ {l : List Val} {is : List Int} {xs : List V}, intsOf l = some is → RpL F w n H l xs → xs = is.map V.int
  | [], is, xs, h, r => by
    cases h
    exact r
  | v :: l, is, xs, h, r => by
    obtain ⟨x, t, e, rv, rl⟩ := r
    cases v with
    | int i =>
      simp only [intsOf] at h
      split at h
      · rename_i js hj
        cases h
        rw [e, ints_rp hj rl, show x = .int i from rv]; rfl
      · cases h
    | _ => cases h
theorem ge_nx0 {F : Fx} {E : L2.St → XK} {f : Env → Store → Res Val} (hK : X.K = F.K) {c P : Addr} {iter : Expr} {x : Str} {p pos px gpos p1 p2 p3 p4 p5 : Pos} {j j2 : Nat} {k0 d0 : Int} {scope : Scope} {k : Nat}
    (hr : Room k X.A) (hg : Gl X "next") (hm : X.mg "next" = none) (TB : GxR.TabB X.base X.mg c P) (hT : (P, none) ∈ F.T) (hTu : ∀ q, (P, some q) ∉ F.T) (hcode : X.env.code = .ref c) (S : GxR.GenS X.env scope x) (hx : (x == ("__debug__" : Str)) = false) (hi : PE X iter (TEv F E f))
    (hs : ∀ v, genFold iter X.env v = pure v) :
    PE X (.Call (.Name "next" p) [.GeneratorExp (.Name x p3) [⟨.Name x px, iter, [.Compare (.Name x p1) [.NotEq] [.Constant (.int k0) j p2] p4], 0⟩] scope gpos, .Constant (.int d0) j2 p5] [] pos)
      (TEv F E fun ρ O => (f ρ O).bind fun x O1 => match Mn.seqOf O1 x with
        | some l => (match intsOf l with
          | some is => .ok (.int ((is.find? (fun n => n != k0)).getD d0)) O1
          | none => .bad)
        | none => .bad) := by
  refine ⟨fun pins st σ H Q I ⟨w, ρ, O, sk, r, z⟩ => ?_⟩
  refine wpAny_Call_Name_kw (ld_blt (u := .builtin "next") I hg hm (by first | rfl | decide +kernel) ?_ (by decide) (by decide))
  refine PyProof.Rows.callWith_builtin1 ?_ rfl rfl
  refine Calls.spliced_cons (gen_sq (k0 := k0) (R := fun zs H1 => ∀ H2, GxR.Tabbed P H1 H2 → Q (.int ((zs.find? (fun n => n != k0)).getD d0)) H2) hr TB hcode S hx hi hs I
    (TEv.go sk r z fun v w1 O1 H1 xv s1 r1 l1 rv z1 => ?_) fun zs H1 g s5 hR hG => ?_)
  · split at z1
    · rename_i l hl
      split at z1
      · rename_i is his
        obtain ⟨q, xs, e1, e2, e3⟩ := Mn.Rp.seqB s1 rv hl
        have ex := ints_rp his e3
        subst ex
        obtain ⟨ps, t1, t2, _⟩ := s1.tab (P, none) hT
        refine ⟨_, q, is, e1, by rw [hK]; exact e2, ⟨ps, t1, t2⟩, fun H2 tb => ?_⟩
        obtain ⟨s2, l2⟩ := s1.tbl ⟨ps, t1, t2⟩ hTu tb
        exact z1.here' s2 l2 _ rfl
      · exact z1.elim
    · exact z1.elim
  · obtain ⟨fp, wr, G, Fy, Sx, W, hst, hty, hF, hI⟩ := hG
    refine Calls.spliced_cons (wpAny_Constant_int (pos := p5) (k := j2) ?_)
    refine Calls.spliced_nil ?_
    refine call_nextG hty ?_
    have rf := range_find k0 zs
    have pe : (List.range zs.length).filter (pzK k0 zs) = passing (pzK k0 zs) zs.length 0 := by unfold passing; rw [List.drop_zero]
    rw [pe] at rf
    have hst' := W.frame 0 s5 s5.heap _ hst (Nat.le_succ _) (fun _ _ _ e => e)
    by_cases hn : 0 < (passing (pzK k0 zs) zs.length 0).length
    · refine W.item 0 _ _ _ hn hst' fun y s' hy _ hmv => ?_
      obtain ⟨i, z2, t2, e1, e2, rfl⟩ := hF y hy
      obtain ⟨H2, tb, J⟩ := hI _ s' hmv
      rw [e1] at rf
      obtain ⟨z3, e3, e4⟩ := rf
      rw [e2] at e3
      cases e3
      have hq := hR H2 tb
      rw [e4] at hq
      exact ⟨.int z2, H2, J, ⟨t2, rfl⟩, hq⟩
    · have h0 : (passing (pzK k0 zs) zs.length 0).length = 0 := by omega
      refine W.done _ _ _ (by rw [h0]; exact hst') fun s' hmv => ?_
      obtain ⟨H2, tb, J⟩ := hI _ s' hmv
      rw [List.eq_nil_of_length_eq_zero h0] at rf
      have hq := hR H2 tb
      rw [show zs.find? (fun n => n != k0) = none from rf] at hq
      exact ⟨.int d0, H2, J, ⟨_, rfl⟩, hq⟩
end
end Mn
end

section
set_option Elab.async false
set_option linter.all false
set_option maxRecDepth 100000
set_option maxHeartbeats 2000000
/-! M2o: lambdas handed to a def that calls them; an instance times a number. -/
namespace Mn
open PySem PySem.Spec PyProof.Rows L2

/-! ### a lambda is made -/
/-- what the making leaves of the heap H: nothing changed, or one more code object in the table -/
inductive LamH (q : Str) (P c : Addr) (H : Hp) : Hp → Prop
  | hit : LamH q P c H H
  | new (ps ps' : Array Value) (h1 : H P = some (.tbl ps)) (h2 : H c = none) (h3 : TriplesOk ps'.toList)
      (h4 : ∀ p cv, codeAmong p ps'.toList = some cv → codeAmong p ps.toList = some cv ∨ cv = .ref c) : LamH q P c H (upd (upd H P (.tbl ps')) c (LamX.CodeO c q))
abbrev lamObj (X : Cx) (pr : Arguments) (body : Expr) (scope : Scope) (pm : Value) (c : Addr) (ct : Value) : Obj := PySem.W.kla_obj "<lambda>" (X.env.qual ++ "<lambda>") pr body scope (cloFrom X.env.cells scope.names []) pm c ct
theorem lam_mk {X : Cx} {pins : List (Addr × Obj)} {σ : L2.St} {H : Hp} {s : Shared} {m P : Addr} {pr : Arguments} {body : Expr} {scope : Scope} {pos : Pos} {Er Q : Value → Shared → Prop} {ps : Array Value}
    (I : Inv X pins σ H s) (TB : LamX.TabB X.base X.mg m P) (hm : X.env.code = .ref m) (hP : H P = some (.tbl ps)) (tri : TriplesOk ps.toList)
    (old : ∀ p cv, codeAmong p ps.toList = some cv → ∃ c, cv = .ref c ∧ H c = some (LamX.CodeO c (X.env.qual ++ "<lambda>")))
    (hd : defaultsOf pr X.env = ([], [])) (hf : ∀ y ∈ scope.names, y.2 = .free → ∃ c, X.env.cells.lookup y.1 = some c)
    (go : ∀ (f c : Addr) (pm ct : Value) (H1 : Hp) (s1 : Shared), Inv X pins σ H1 s1 → LamH (X.env.qual ++ "<lambda>") P c H H1 → s1.heap.get? f = some (lamObj X pr body scope pm c ct) → H1 f = none → f ∉ frs X.stack →
      H1 c = some (LamX.CodeO c (X.env.qual ++ "<lambda>")) → Q (.ref f) s1) :
    wpAny (model X.prog X.w) X.A (eval (.Lambda pr body scope pos) X.env) Q Er s := by
  have tb := TB.bm.keeps I.bk
  have objP : s.heap.get? P = some { cls := .none, data := .fields ps } := I.hok P _ hP
  have far : ∀ {f : Addr}, s.heap.objs.size ≤ f → f ∉ frs X.stack := fun {f} hf z => by
    rcases List.mem_cons.mp (I.stkSub _ z) with e | e
    · have lt := I.lt
      rw [← e] at lt
      exact absurd lt (Nat.not_lt.mpr hf)
    · exact I.nofs hf e
  refine PySem.W.kla_eval hd ?_
  cases hc : codeAmong pos ps.toList with
  | some cv =>
    obtain ⟨c, rfl, hco⟩ := old pos cv hc
    refine PySem.W.kla_makeFunctionHit (mg := X.mg) (c := m) (P := P) (ps := ps) (closure_ok hf) I.ok.glob (I.mod.glob.keeps I.bk) hm (TB.code.keeps I.bk) objP tri hc tb fun ct h1 tk keep sz => ?_
    refine go h1.objs.size c ((X.mg "__name__").getD .none) ct H _ (I.kept fun b o e => Heap.get?_push_of_some _ (keep b o e)) .hit (Heap.get?_push_size _ rfl) (I.hok.fresh sz) (far sz) hco
  | none =>
    refine PySem.W.kla_makeFunction (mg := X.mg) (c := m) (P := P) (ps := ps) (closure_ok hf) I.ok.glob (I.mod.glob.keeps I.bk) hm (TB.code.keeps I.bk) objP tri hc TB.gP tb fun c ct h1 tk ext ge lt rec tab => ?_
    obtain ⟨c2, oc, vs, t, e2, g1, g2, g3⟩ := rec
    cases e2
    have free : H c = none := I.hok.fresh ge
    have szs : s.heap.objs.size ≤ h1.objs.size := by omega
    have J := LamX.inv_table (t' := tk) (q := X.env.qual ++ "<lambda>") (more := #[rawInt pos.line, rawInt pos.col, .ref c]) (h' := h1.push (lamObj X pr body scope ((X.mg "__name__").getD .none) c ct)) I hP
      (fun b o ne e => Heap.get?_push_of_some _ (ext b o ne e)) (Heap.get?_push_of_some _ tab) ge ⟨oc, vs, t, Heap.get?_push_of_some _ g1, g2, g3⟩
    have ls : (ps ++ #[rawInt pos.line, rawInt pos.col, .ref c]).toList = ps.toList ++ [rawInt pos.line, rawInt pos.col, .ref c] := by simp
    refine go h1.objs.size c ((X.mg "__name__").getD .none) ct _ _ J (.new ps _ hP free (by rw [ls]; exact PySem.TriplesOk_snoc _ _ _ _ tri) fun p cv q => ?_) (Heap.get?_push_size _ rfl) ?_ (far szs) upd_same
    · rw [ls] at q
      exact LamX.among_app _ tri q
    · have n1 : h1.objs.size ≠ c := fun z => Nat.lt_irrefl _ (Nat.lt_of_lt_of_eq lt z)
      have n2 : h1.objs.size ≠ P := fun z => Nat.lt_irrefl _ (Nat.lt_of_lt_of_le (z ▸ Heap.lt_size objP) szs)
      rw [upd_ne n1, upd_ne n2]
      exact I.hok.fresh szs
section
variable {F : Fx} {w : Wd} {O : Store} {H H1 : Hp} {q : Str} {P c : Addr}
theorem codeO_nt : NT (LamX.CodeO c q) := fun ps e => LamX.codeO_ne ps e
/-- the store behind it -/
theorem SOk.lam (s : SOk F w O H) (hT : (P, some q) ∈ F.T) (uni : ∀ p ∈ F.T, p.1 = P → p.2 = some q) (h : LamH q P c H H1) : ∃ w', SOk F w' O H1 ∧ Le w O H w' O H1 := by
  cases h with
  | hit => exact ⟨w, s, Le.refl⟩
  | new ps ps' h1 h2 h3 h4 =>
    have nPc : P ≠ c := ne_of_none h1 h2
    have at_ : ∀ a, a ≠ P → a ≠ c → upd (upd H P (.tbl ps')) c (LamX.CodeO c q) a = H a := fun a x y => by rw [upd_ne y, upd_ne x]
    have keep : ∀ a o, H a = some o → NT o → upd (upd H P (.tbl ps')) c (LamX.CodeO c q) a = some o := fun a o e nt => by
      rw [at_ a (fun z => nt ps (by rw [z, h1] at e; cases e; rfl)) (ne_of_none e h2)]
      exact e
    have keepZ : ∀ a o, w.Z a → H a = some o → upd (upd H P (.tbl ps')) c (LamX.CodeO c q) a = some o := fun a o z e => by
      obtain ⟨⟨o', e', nt⟩, _⟩ := s.zt a z
      rw [e] at e'; cases e'
      exact keep a o e nt
    have hh : ∀ a, Hot (w.seal c) O a ↔ Hot w O a := fun a => ⟨fun ⟨k, d, e, z⟩ => ⟨k, d, e, (HotC.eq rfl rfl).mp z⟩, fun ⟨k, d, e, z⟩ => ⟨k, d, e, (HotC.eq rfl rfl).mpr z⟩⟩
    refine ⟨w.seal c, ⟨fun a z => ?_, fun p hp => ?_, fun k d e => ?_, fun j k d d' a e1 e2 q1 q2 => s.inj j k d d' a e1 e2 ((HotC.eq rfl rfl).mp q1) ((HotC.eq rfl rfl).mp q2)⟩,
      ⟨Nat.le_refl _, fun _ _ => ⟨rfl, rfl⟩, fun a z => .inl z, fun a o e _ nt => keep a o e nt, fun a z => ?_, fun a z => .inl ((hh a).mp z), fun a o e => ?_⟩⟩
    · rcases z with z | z
      · obtain ⟨⟨o, e, nt⟩, n⟩ := s.zt a z
        exact ⟨⟨o, keep a o e nt, nt⟩, fun z => n ((hh a).mp z)⟩
      · subst z
        exact ⟨⟨_, upd_same, codeO_nt⟩, fun z => s.hot_ne ((hh _).mp z) h2⟩
    · by_cases hb : p.1 = P
      · refine ⟨ps', by rw [hb, upd_ne nPc, upd_same], h3, fun r hr pos cv e => ?_⟩
        rw [uni p hp hb] at hr
        cases hr
        rcases h4 pos cv e with z | z
        · obtain ⟨ps0, t1, t2, t3⟩ := s.tab p hp
          rw [hb, h1] at t1
          cases t1
          obtain ⟨c0, e1, e2, e3⟩ := t3 _ (uni p hp hb) pos cv z
          exact ⟨c0, e1, .inl e2, keepZ c0 _ e2 e3⟩
        · exact ⟨c, z, .inr rfl, upd_same⟩
      · obtain ⟨ps0, t1, t2, t3⟩ := s.tab p hp
        refine ⟨ps0, by rw [at_ _ hb (ne_of_none t1 h2)]; exact t1, t2, fun r hr pos cv e => ?_⟩
        obtain ⟨c0, e1, e2, e3⟩ := t3 r hr pos cv e
        exact ⟨c0, e1, .inl e2, keepZ c0 _ e2 e3⟩
    · have c1 := s.cell k d e
      obtain ⟨⟨o1, q1, n1⟩, g2⟩ := c1.there
      refine c1.mono (Nat.le_refl _) (fun _ _ => rfl) (fun _ z => .inl z) keepZ rfl rfl (fun u z => keep _ u z ?_) fun hc u z => ?_
      · rw [q1] at z; cases z; exact n1
      · obtain ⟨o2, q2, n2⟩ := g2 hc
        refine keep _ u z ?_
        rw [q2] at z; cases z; exact n2
    · rcases z with z | z
      · exact .inl z
      · exact .inr (.inl (by rw [z]; exact h2))
    · by_cases hb : a = P
      · exact ⟨_, by rw [hb, upd_ne nPc, upd_same]⟩
      · exact ⟨o, by rw [at_ a hb (ne_of_none e h2)]; exact e⟩
end

/-! ### x(lambda: body) -/
/-- the lambda's reading tl is what th tells -/
def ThR (F : Fx) (w : Wd) (O : Store) (H : Hp) (th : Store → Res Val) (tl : XK → Hp → VK → Prop) : Prop :=
  ∀ (E : XK) (H' : Hp) (Q' : VK) (w' : Wd) (O' : Store), SOk F w' O' H' → Le w O H w' O' H' → Pst F w' O' H' (th O') (RE F Q') E → tl E H' Q'
def TTm (F : Fx) (cl : (Store → Res Val) → Store → Res Val) : (XK → Hp → VK → Prop) → Hp → VK → Prop := fun tl H Q =>
  ∃ w O th, SOk F w O H ∧ ThR F w O H th tl ∧ Pst F w O H (cl th O) (RE F Q) fun _ _ _ => False
/-- the def x that gets the lambda as its first parameter a: what it makes of it -/
def GivesM (r : Nat) (X : Cx) (Ng : List Str) (x : Str) (sg : Scope) (g : Addr) (cdg : Value) (bg : List Stmt) (a : Str) (q : Str) (TT : (XK → Hp → VK → Prop) → Hp → VK → Prop) : Prop :=
  ∀ (f c : Addr) (s : Shared) (H : Hp) (Q : VK) (tl : XK → Hp → VK → Prop), Room r (X.A.deeper (envOfC x sg s.heap.objs.size g cdg)) →
    (∀ (W : WX) (pn : List (Addr × Obj)) (xe : Value → Shared → Prop) (E : XK) (p1 p2 : Pos), Takes ((cxOf C8.CX0 X.prog X.w X.K X.mg X.base Ng x sg g cdg X.A X.stack s H C8.E0).tr pn xe) W → (∀ cls d σ' H', σ'.length = Ng.length → E cls d H' → W cls d σ' H') →
      PE ((cxOf C8.CX0 X.prog X.w X.K X.mg X.base Ng x sg g cdg X.A X.stack s H C8.E0).tr pn xe) (.Call (.Name a p1) [] [] p2) (fun σZ HZ Q => σZ.length = Ng.length ∧ σZ[0]? = some (some (.ref f)) ∧ HZ c = some (LamX.CodeO c q) ∧ tl E HZ Q)) →
    H c = some (LamX.CodeO c q) → TT tl H Q →
    ∃ t, PSs (cxOf C8.CX0 X.prog X.w X.K X.mg X.base Ng x sg g cdg X.A X.stack s H C8.E0).nox bg t ∧ t { nx := fun _ H' => Q .non H', rt := Q } (L2.start Ng [.ref f]) H
/-- the text of a def that takes a lambda -/
structure TakeT (K : PySem.W.Frag) (x a : Str) (Ng : List Str) (g : Addr) (cdv : Value) (bg : List Stmt) (sg : Scope) : Prop where
  ex : ∃ (pg : Arguments) (dV kV doc pm ct oc : Value) (an od : Option Addr) (osl : Array (Option Value)), K.lookup g = some ⟨oc, od, .func (PySem.W.fnOf x x pg bg sg dV kV doc pm an cdv ct), osl⟩ ∧ L2.Binds K (PySem.W.fnOf x x pg bg sg dV kV doc pm an cdv ct) [a] []
  cd : PySem.W.codeIn K cdv x = true
  sc : FnScope Ng [a] sg
  hN : Ng[0]? = some a
  vis : Vis sg a
  n1 : (a == ("__debug__" : Str)) = false
  n2 : (a == ("__classdict__" : Str)) = false
theorem ge_lam {X : Cx} {F : Fx} {E : L2.St → XK} {f : Env → Store → Res Val} {cl : (Store → Res Val) → Store → Res Val} {x a : Str} {g m P : Addr} {k : Nat} {bg : List Stmt} {sg : Scope} {cdv : Value} {Ng : List Str} {pr : Arguments} {body : Expr} {scope : Scope} {p lpos pos : Pos}
    (hg : Gl X x) (hm : X.mg x = some (.ref g)) (hk : PySem.W.keepIn X.K (.ref g) = true) (T : TakeT X.K x a Ng g cdv bg sg) (hG : GivesM (k + 1) X Ng x sg g cdv bg a (X.env.qual ++ "<lambda>") (TTm F cl))
    (TB : LamX.TabB X.base X.mg m P) (hcode : X.env.code = .ref m) (hT : (P, some (X.env.qual ++ "<lambda>")) ∈ F.T) (uni : ∀ p ∈ F.T, p.1 = P → p.2 = some (X.env.qual ++ "<lambda>")) (hr : Room (k + 2) X.A) (L : LamX.LamS X.env.scope scope) (hdef : defaultsOf pr X.env = ([], []))
    (hbind : ∀ (q : Str) (cl : List (Str × Addr)) (pm cv ctv : Value), bindArgs (PySem.W.kla_fn "<lambda>" q pr body scope cl pm cv ctv) ⟨[], []⟩ = pure [])
    (hbody : ∀ (A : Around) (outer : List PySem.Env) (s : Shared) (H : Hp) (E : XK) (f0 c' : Addr), Room k (A.deeper (LamX.lamEnv X scope s.heap.objs.size f0 c')) → PE (LamX.lamCx X A outer s H E scope f0 c') body (TEv F (fun _ => E) f)) (hdb : (x == ("__debug__" : Str)) = false) :
    PE X (.Call (.Name x p) [.Lambda pr body scope lpos] [] pos) (TEv F E fun ρ O => noX (cl (fun O1 => f ρ O1) O)) := by
  refine ⟨fun pins s σ H Q I ⟨w, ρ, O, sk, r, z⟩ => ?_⟩
  obtain ⟨ps, t1, t2, t3⟩ := sk.tab _ hT
  obtain ⟨pg, dV, kV, doc, pm0, ct, oc, an, od, osl, lk, hb⟩ := T.ex
  refine wpAny_Call_Name_kw (ld_glob I hg hm ?_ hdb)
  refine PySem.W.callWith_K (h₀ := X.base) I.ok.mod.kin hk ?_ (by rfl) (by rfl)
  show wpAny _ _ (spliced ((false, eval (.Lambda pr body scope lpos) X.env) :: backTo pos (starEach [] X.env))) _ _ s
  refine Calls.spliced_cons (lam_mk I TB hcode t1 t2 (fun p cv e => ?_) hdef (L.has I.ok) fun f' c' pm' ctv H1 s' I1 hH hf hfn hfr hco => ?_)
  · obtain ⟨c, e1, _, e3⟩ := t3 _ rfl p cv e
    exact ⟨c, e1, e3⟩
  obtain ⟨w1, s1, l1⟩ := sk.lam hT uni hH
  refine Calls.spliced_nil ⟨I1.kIn, ?_⟩
  have z1 : Pst F w1 O H1 (cl (fun O1 => f ρ O1) O) (RE F Q) fun _ _ _ => False := by
    have z2 : Pst F w1 O H1 (noX (cl (fun O1 => f ρ O1) O)) (RE F Q) (E σ) := z.after l1
    cases hcl : cl (fun O1 => f ρ O1) O with
    | ok v O2 => rw [hcl] at z2; exact z2
    | exc c p O2 => rw [hcl] at z2; exact (show False from z2).elim
    | bad => rw [hcl] at z2; exact (show False from z2).elim
  have rc : codeAny (model X.prog X.w) X.A (.call (.ref g) ⟨[.ref f'], []⟩) (CR C8.CX0 X.stack X.prog X.w H1 s' Q C8.E0) s' := by
    refine LamX.run_ofS (N := Ng) (ps := [a]) (us := [.ref f']) (vs := [.ref f']) lk T.cd T.sc hr.r I1.env0 (hb s' [.ref f'] I1.kIn rfl) (.cons rfl .nil) rfl fun hr0 => ?_
    have hr' : Room (k + 1) (X.A.deeper (envOfC x sg s'.heap.objs.size g cdv)) := ⟨hr0, hr.gd⟩
    obtain ⟨t', ht', hq'⟩ := hG f' c' s' H1 Q (fun E' H' Q' => TEv F (fun _ => E') f σ H' Q') hr' (fun W pn xe E' p1 p2 tk hW =>
      pe_act (i := 0) (E := E') (tb := TEv F (fun _ => E') f) I1 L hf hfn hfr (hbind _ _ _ _ _) tk hW hr' (fun A outer s H hr2 => hbody A outer s H E' f' c' hr2) T.hN T.vis T.n1 T.n2) hco
      ⟨w1, O, fun O1 => f ρ O1, s1, fun E' H' Q' w' O' s2 l2 z2 => ⟨w', ρ, O', s2, (r.le sk l1).le s1 l2, z2⟩, z1⟩
    exact ⟨t', ht'.nox, hq'⟩
  refine wpAny_call (codeAny_mono rc fun rr s2 hq => ?_)
  cases rr with
  | error e => exact (show False from hq).elim
  | ok fl =>
    cases fl with
    | ret u => exact I1.after hq
    | next => exact False.elim hq
    | brk => exact False.elim hq
    | cont => exact False.elim hq

/-! ### an instance times a number -/
structure MulOk (K : PySem.W.Frag) (C g : Addr) : Prop where
  first : PySem.W.selfFirst K C = true
  at_ : PySem.W.findIn K (.ref C) "__mul__" = some (some (.ref g))
  fn : PySem.W.isFn K (.ref g) = true
  r : ∃ rc, PySem.W.findIn K (.ref C) "__rmul__" = some rc ∧ (rc = none ∨ ∃ g' : Addr, rc = some (.ref g'))
  i1 : ∃ fo, PySem.W.findIn K (.type "int") "__mul__" = some fo
  i2 : ∃ ro, PySem.W.findIn K (.type "int") "__rmul__" = some ro
  sub : PySem.W.subIn K (.type "int") (.ref C) = some false
def mulR (P : Pg) (cl : Nat → List Val → Store → Res Val) (kp : Bool) (a b : Val) (O : Store) : Res Val := match a with
  | .obj c _ => match P.cls[c]? with
    | some k => match k.mul with
      | some f => match b with
        | .int _ => noX (cl f [a, b] O)
        | _ => .bad
      | none => .bad
    | none => .bad
  | _ => ofO2 (binV kp .mul a b O)
theorem mulR_not {P : Pg} {cl : Nat → List Val → Store → Res Val} {kp : Bool} {a b : Val} {O : Store} (h : ∀ c l, a ≠ .obj c l) : mulR P cl kp a b O = ofO2 (binV kp .mul a b O) := by
  cases a with
  | obj c l => exact absurd rfl (h c l)
  | _ => rfl
def rMul (F : Fx) (f : Val → Val → Store → Res Val) : R2 := fun x y H Q => ∃ w O a b, SOk F w O H ∧ Rp F w O.length H a x ∧ Rp F w O.length H b y ∧ Pst F w O H (f a b O) (RE F Q) fun _ _ _ => False
theorem passes_no {X : Cx} : Passes (L2.CX X.prog X.w) X (fun _ _ _ => False) := fun _ _ _ _ _ _ _ x => by
  obtain ⟨_, _, _, _, _, _, _, _, _, _, _, _, z⟩ := x
  exact z.elim
theorem op_mulO {X : Cx} {F : Fx} (hK : X.K = F.K) {P : Pg} {n : Nat} {kp : Bool} {cl : Nat → List Val → Store → Res Val} (Fn : ∀ j, j < F.nf → FnS X F n (F.fa j) (cl j)) (hr : Room n X.A)
    (hm : ∀ (c : Nat) (k : Cls) (g : Nat), P.cls[c]? = some k → k.mul = some g → g < F.nf ∧ MulOk F.K (F.ca c) (F.fa g)) : OpR X (binaryOp .Mult) (rMul F (mulR P cl kp)) := by
  intro pins s σ H x y v u Q I rx ry ⟨w, O, a, b, sk, ra, rb, z⟩
  have other : (∀ c l, a ≠ .obj c l) → wpAny (model X.prog X.w) X.A (binaryOp .Mult v u) (EP X pins σ Q) X.xe s := fun hn => by
    rw [mulR_not hn] at z
    refine op_bin (F := F) hK (kp := kp) .mul pins s σ H x y v u Q I rx ry ?_
    cases e : binV kp .mul a b O with
    | none => rw [e] at z; exact (show False from z).elim
    | some p =>
      obtain ⟨o, O3⟩ := p
      rw [e] at z
      exact ⟨w, O, a, b, o, O3, sk, ra, rb, e, fun w' H' x' s' l' rx' => z w' H' s' l' x' rx'⟩
  cases a with
  | obj c fs =>
    unfold mulR at z
    dsimp only at z
    split at z
    · rename_i k hk
      split at z
      · rename_i g hg
        split at z
        · rename_i i
          obtain ⟨hg1, M⟩ := hm c k g hk hg
          obtain ⟨q, dx, vs, xs, e1, _, _, e2, _, _⟩ := id ra
          subst e1
          obtain rfl : v = Value.ref q := rx
          obtain rfl : y = .int i := rb
          obtain ⟨t, rfl⟩ : ∃ t, u = Value.int i t := ry
          obtain ⟨sl, od, _, J, _⟩ := SlX.slt_inst I e2
          obtain ⟨m, hF⟩ := I.fr
          obtain ⟨rc, r1, r2⟩ := M.r
          obtain ⟨fo, f1⟩ := M.i1
          obtain ⟨ro, o1⟩ := M.i2
          have z1 : Pst F w O H (cl g [.obj c fs, .int i] O) (RE F Q) fun _ _ _ => False := by
            cases hcl : cl g [.obj c fs, .int i] O with
            | ok v O2 => rw [hcl] at z; exact z
            | exc c p O2 => rw [hcl] at z; exact (show False from z).elim
            | bad => rw [hcl] at z; exact (show False from z).elim
          refine PySem.W.ksp_binT (op := .Mult) (T := "int") hF I.ok.mod.kin J rfl (by rw [hK]; exact M.first) (by rw [hK]; exact M.at_) (by rw [hK]; exact M.fn) (by rw [hK]; exact r1) r2 (by rw [hK]; exact f1) (by rw [hK]; exact o1) (by rw [hK]; exact M.sub) ?_
          refine wpAny_mono (wpAny_call (run_fnR (us := [.ref q, .int i t]) (vs := [.ref q, .int i]) (Fn g hg1) hr passes_no I (.cons rfl (.cons ⟨t, rfl⟩ .nil)) ⟨w, O, [.obj c fs, .int i], sk, RpL.two ra rfl, z1⟩)) (fun v' s' z2 => ?_) fun _ _ x => x
          obtain ⟨z', H', I', rz, qz⟩ := z2
          exact SlX.cmpback rz ⟨z', H', I', rz, qz⟩
        · exact (show False from z).elim
      · exact (show False from z).elim
    · exact (show False from z).elim
  | _ => exact other fun c l e => nomatch e
theorem ge_mul {X : Cx} {F : Fx} {E : L2.St → XK} {f g : Env → Store → Res Val} {a b : Expr} {pos : Pos} (hK : X.K = F.K) {P : Pg} {n : Nat} {kp : Bool} {cl : Nat → List Val → Store → Res Val} (Fn : ∀ j, j < F.nf → FnS X F n (F.fa j) (cl j)) (hr : Room n X.A)
    (hm : ∀ (c : Nat) (k : Cls) (g : Nat), P.cls[c]? = some k → k.mul = some g → g < F.nf ∧ MulOk F.K (F.ca c) (F.fa g)) (ha : PE X a (TEv F E f)) (hb : PE X b (TEv F E g)) :
    PE X (.BinOp a .Mult b pos) (TEv F E fun ρ O => (f ρ O).bind fun x O1 => (g ρ O1).bind fun y O2 => mulR P cl kp x y O2) :=
  (pe_op (op_mulO (P := P) (cl := cl) (kp := kp) hK Fn hr hm) ha hb).imp fun σ H Q ⟨w, ρ, O, s, r, z⟩ => TEv.go s r z fun v w1 O1 H1 x s1 r1 l1 rx z1 => TEv.go s1 r1 z1 fun u w2 O2 H2 y s2 r2 l2 ry z2 => by
    refine ⟨w2, O2, v, u, s2, rx.le s1 l2, ry, ?_⟩
    cases e : mulR P cl kp v u O2 with
    | ok v' O3 => rw [e] at z2; exact z2
    | exc c p O3 =>
      exfalso
      unfold mulR at e
      split at e
      · split at e
        · split at e
          · split at e
            · rename_i g0 _ _ _
              unfold noX at e
              split at e <;> cases e
            · cases e
          · cases e
        · cases e
      · unfold ofO2 at e
        split at e <;> cases e
    | bad => rw [e] at z2; exact z2
end Mn
end

section
set_option Elab.async false
set_option linter.all false
set_option maxRecDepth 100000
set_option maxHeartbeats 2000000
/-! M2q: repr; how many different ones; exceptions with a field raised; several clauses, with names. -/
namespace Mn
open PySem PySem.Spec PyProof.Rows L2

/-! ### repr -/
theorem reads_empty {X : Cx} {pins : List (Addr × Obj)} {σ : L2.St} {H : Hp} {s : Shared} {a : Addr} (I : Inv X pins σ H s) (h : H a = some (.dK [])) : ∃ as, Reads s.heap (.ref a) (.dict []) as ∧ sysModules ∉ as := by
  obtain ⟨_, hn, vs, hv, hd⟩ := (show ObjOk X.prog X.w H s.heap a (.dK []) from I.hok a _ h)
  cases hv
  obtain ⟨o, es, ep, ho, hex, hdt, _, hp, _⟩ := hd
  have he : es.toList = [] := by
    cases hl : es.toList with
    | nil => rfl
    | cons x r => rw [hl] at hp; cases hp
  refine ⟨[a] ++ [] , Reads.dict (as := []) (bs := []) ho hex.1 hdt (by rw [he]; exact .nil) (by rw [he]; exact .nil), ?_⟩
  simp only [List.append_nil, List.mem_singleton]
  exact fun z => by rw [z] at hn; simp at hn
def rRep (F : Fx) : List V → Hp → VK → Prop := fun xs H Q => ∃ (w : Wd) (O : Store) (v : Val) (y : V) (t : Str), xs = [y] ∧ SOk F w O H ∧ Rp F w O.length H v y ∧ reprV v O = some t ∧ Q (.str t) H
theorem call_repr {X : Cx} {F : Fx} (hK : X.K = F.K) (hgd : X.A.guards = some []) (hu0 : X.A.units + 200 < cLine) : CallR X (.builtin "repr") (rRep F) := by
  intro pins s σ H xs us Q I r h
  obtain ⟨w, O, v, y, t, rfl, sk, rv, e, q⟩ := h
  obtain ⟨u, rfl, ru⟩ := vals1 r
  have gen : ∀ d, dataOf O v = some d → reprOk d = true → t = d.shown → (∀ a, y = .ref a → wpAny (model X.prog X.w) X.A (call (.builtin "repr") [u]) (EP X pins σ Q) X.xe s) := fun d hd hok ht a ea => by
    subst ea
    unfold reprOk at hok
    simp only [Bool.and_eq_true, Bool.not_eq_true'] at hok
    obtain ⟨⟨⟨h1, h2⟩, h3⟩, h4⟩ := hok
    obtain rfl : u = Value.ref a := ru
    have dp := dataOf_dp sk rv hd
    rw [← hK] at dp
    obtain ⟨as, rd⟩ := Dp.reads I d _ _ dp (show RelV (.ref a) (.ref a) from rfl)
    have h3' : d.depth ≤ 20 := Nat.le_of_ble_eq_true h3
    refine repr_of_reads' rd h1 (PyData.noDict_hsm h2) hgd (by omega) (fun _ _ z => z) (fun h' u' tk hk => ?_) (by rw [sizeLine_eq]; exact Nat.le_of_ble_eq_true h4)
    rw [← ht]
    exact ⟨.str t, H, I.kept hk, ⟨_, rfl⟩, q⟩
  have nogen : ∀ a, y = .ref a → v ≠ .edic → wpAny (model X.prog X.w) X.A (call (.builtin "repr") [u]) (EP X pins σ Q) X.xe s := fun a ea ne => by
    unfold reprV at e
    split at e
    · exact absurd rfl ne
    · split at e
      · rename_i d hd
        split at e
        · rename_i hok
          cases e
          exact gen d hd hok rfl a ea
        · cases e
      · cases e
  cases v with
  | non =>
    obtain rfl : y = .non := rv
    obtain rfl : u = Value.none := ru
    have : t = "None" := by
      have e' : (match true with | true => some (PyData.shown .none) | false => none) = some t := e
      exact (Option.some.inj e').symm
    subst this
    exact PySem.P.repr_of_none ⟨.str _, H, I.tok _, ⟨_, rfl⟩, q⟩
  | edic =>
    obtain ⟨a, ea, _, hd⟩ := rv
    subst ea
    obtain rfl : u = Value.ref a := ru
    obtain ⟨as, rd, hn⟩ := reads_empty I hd
    have ht : t = (PyData.dict []).shown := (Option.some.inj (show some (PyData.dict []).shown = some t from e)).symm
    refine repr_of_reads' rd rfl (fun _ => hn) hgd (by have : PyData.depth (.dict []) ≤ 20 := (by decide); omega) (fun _ _ z => z) (fun h' u' tk hk => ?_) (by decide +kernel)
    rw [← ht]
    exact ⟨.str t, H, I.kept hk, ⟨_, rfl⟩, q⟩
  | bl b =>
    obtain rfl : y = .bl b := rv
    obtain rfl : u = Value.bool b := ru
    have e' : (match reprOk (.bool b) with | true => some (PyData.shown (.bool b)) | false => none) = some t := e
    have e1 : reprOk (.bool b) = true := by cases b <;> decide +kernel
    rw [e1] at e'
    have ht : t = PyData.shown (.bool b) := (Option.some.inj e').symm
    refine PySem.P.repr_of_bool ⟨.str t, H, I.tok _, ⟨s.toks, ?_⟩, q⟩
    rw [ht]
    cases b <;> rfl
  | int i =>
    obtain rfl : y = .int i := rv
    obtain ⟨tk, rfl⟩ : ∃ tk, u = Value.int i tk := ru
    have e' : (match reprOk (.int i) with | true => some (PyData.shown (.int i)) | false => none) = some t := e
    split at e'
    · rename_i hok
      have ht : t = toString i := (Option.some.inj e').symm
      subst ht
      unfold reprOk at hok
      simp only [Bool.and_eq_true] at hok
      have h1 : i.natAbs.log2 < 1920 := of_decide_eq_true (by simpa [PyData.showable] using hok.1.1.1)
      exact PySem.P.repr_of_int h1 ⟨.str _, H, I.tok _, ⟨_, rfl⟩, q⟩
    · cases e'
  | str z =>
    obtain rfl : y = .str z := rv
    obtain ⟨tk, rfl⟩ : ∃ tk, u = Value.str z tk := ru
    have e' : (match reprOk (.str z) with | true => some (PyData.shown (.str z)) | false => none) = some t := e
    split at e'
    · rename_i hok
      have ht : t = reprText z := (Option.some.inj e').symm
      subst ht
      unfold reprOk at hok
      simp only [Bool.and_eq_true] at hok
      exact PySem.P.repr_of_str ⟨.str _, H, I.tok _, ⟨_, rfl⟩, q⟩ (by rw [sizeLine_eq]; exact Nat.le_of_ble_eq_true hok.2)
    · cases e'
  | tup l => obtain ⟨a, xs, ea, _⟩ := id rv; exact nogen a ea (fun z => nomatch z)
  | lst l => obtain ⟨a, xs, ea, _⟩ := id rv; exact nogen a ea (fun z => nomatch z)
  | scr l => obtain ⟨a, xs, ea, _⟩ := id rv; exact nogen a ea (fun z => nomatch z)
  | own j => exact nogen _ rv.2 (fun z => nomatch z)
  | obj c l => obtain ⟨a, dx, vs, xs, ea, _⟩ := id rv; exact nogen a ea (fun z => nomatch z)
  | fn i => exact nogen _ rv.2 (fun z => nomatch z)
  | exn c p => exact (show False from rv).elim

section
variable {X : Cx} {F : Fx} {E : L2.St → XK} {f : Env → Store → Res Val} {a e : Expr} {p pos pos2 : Pos} {x : Str}
theorem ge_rep {k : Nat} (hK : X.K = F.K) (hr : Room k X.A) (hg : Gl X "repr") (hm : X.mg "repr" = none) (ha : PE X a (TEv F E f)) (hs : starEach [a] X.env = (false, eval a X.env) :: starEach [] X.env) :
    PE X (.Call (.Name "repr" p) [a] [] pos) (TEv F E fun ρ O => (f ρ O).bind fun x O1 => match reprV x O1 with
      | some s => .ok (.str s) O1
      | none => .bad) :=
  (pe_callB (call_repr hK hr.gd (by have := hr.un; omega)) hg hm (by decide +kernel) (pa_cons ha pa_nil hs) (he := hs)).imp fun σ H Q ⟨w, ρ, O, s, r, z⟩ => TEv.go s r z fun v w1 O1 H1 y s1 r1 l1 ry z1 => by
    cases h : reprV v O1 with
    | none => rw [h] at z1; exact z1.elim
    | some t =>
      rw [h] at z1
      exact ⟨w1, O1, v, y, t, rfl, s1, ry, h, z1.here s1 (.str t) rfl⟩

/-! ### raise C(e) -/
theorem xd_nt {fs : List (Str × V)} : NT (.xd fs) := fun _ z => nomatch z
theorem gs_rseF {B newId initId : String} {bmB : List Value} {c : Nat} {Ex : XK} (b : XiB B newId initId bmB) (T : XiOk X.prog X.K (F.ea c) (F.xf c) newId initId bmB B) (hc : X.calm = true) (tk : Takes X fun cls dd _ H => Ex cls dd H) (hsup : X.mg "super" = none)
    (hr : L2.Room 1 X.A) (hg : Gl X x) (hm : X.mg x = some (.ref (F.ea c))) (ne : c < F.ne) (he : PE X e (TEv F (fun _ => Ex) f)) (hs : starEach [e] X.env = (false, eval e X.env) :: starEach [] X.env) (hdb : (x == ("__debug__" : Str)) = false) :
    PS X (.Raise (some (.Call (.Name x p) [e] [] pos)) none pos2) (TSv F Ex fun ρ O => (f ρ O).bind fun v O1 => .exc c [v] O1) :=
  (ps_raise hc tk (pmk_xi b T hsup hr hg hm (pa_cons he pa_nil hs) hs hdb)).imp fun D σ H ⟨w, ρ, O, s, r, z⟩ => TEv.go (F := F) (E := fun _ => Ex) s r z fun v w1 O1 H1 y s1 r1 l1 ry z1 => by
    refine ⟨y, rfl, fun dx hdx => ?_⟩
    obtain ⟨s2, l2⟩ := s1.alloc (.xd [(F.xf c, y)]) xd_nt hdx
    have z2 : Pst F w1 O1 H1 (.exc c [v] O1 : Res Fl) (RS F D) Ex := z1
    exact z2 _ _ s2 l2 _ _ ⟨ne, rfl, dx, y, rfl, upd_same, ry.le s1 l2⟩
end

/-! ### a try with several clauses, with or without names -/
/-- a clause: its class, the slot of its name, its suite's reading -/
structure Hc where
  c : Value
  at_ : Option Nat
  ts : Addr → Value → Option Addr → TS
def slotN (σ : L2.St) (a : Addr) : Option Nat → L2.St
  | none => σ
  | some i => σ.set i (some (.ref a))
def endsN (D : Ends) : Option Nat → Ends
  | none => D
  | some i => { nx := fun σ H => D.nx (σ.set i none) H, rt := D.rt, bk := fun σ H => D.bk (σ.set i none) H, ct := fun σ H => D.ct (σ.set i none) H }
def wN (K : PySem.W.Frag) (Wout : WX) (D : Ends) : List Hc → WX
  | [] => Wout
  | h :: r => fun cls d σ H => ∃ b, PySem.W.exmOne K cls h.c = some b ∧ (b = true → ∀ a, H a = none → h.ts a cls d (endsN D h.at_) (slotN σ a h.at_) H) ∧ (b = false → wN K Wout D r cls d σ H)
def NmAt (X : Cx) : Option Str → Option Nat → Prop
  | none, none => True
  | some n, some i => X.N[i]? = some n ∧ X.env.kindOf n = some .local
  | _, _ => False
inductive HsN (X : Cx) : List ExceptHandler → List Hc → Prop
  | nil : HsN X [] []
  | cons {x : Str} {h : Hc} {nm : Option Str} {st : Stmt} {sts : List Stmt} {p q : Pos} {hds : List ExceptHandler} {l : List Hc} (hc : Names X x h.c) (hn : NmAt X nm h.at_)
      (su : ∀ (a : Addr) (oe : Obj) (cls : Value) (d : Option Addr) (pn : List (Addr × Obj)), Zc cls d oe → (∃ vs, oe.data = .fields vs) → PSs (X.suite a ((a, oe) :: pn)) (st :: sts) (h.ts a cls d)) (r : HsN X hds l) :
      HsN X (.ExceptHandler (some (.Name x p)) nm (st :: sts) q :: hds) (h :: l)
section
variable {X : Cx} {body : List Stmt} {h0 : ExceptHandler} {hds : List ExceptHandler} {l : List Hc} {pos : Pos} {tb : WX → TS} {Wout : WX} {pins : List (Addr × Obj)} {D : Ends}
/-- behind a suite without a name -/
theorem sp_unsuite {a : Addr} {oe : Obj} {f : Flow} {s : Shared} (ok : X.Ok) (h : SP (X.suite a ((a, oe) :: (X.pn ++ pins))) [] D f s) : SP X pins D f s := by
  cases f with
  | ret u => obtain ⟨v, σ, H, I, r, q⟩ := h; exact ⟨v, σ, H, I.unsuite ok, r, q⟩
  | next => obtain ⟨σ, H, I, q⟩ := h; exact ⟨σ, H, I.unsuite ok, q⟩
  | brk => obtain ⟨σ, H, I, q⟩ := h; exact ⟨σ, H, I.unsuite ok, q⟩
  | cont => obtain ⟨σ, H, I, q⟩ := h; exact ⟨σ, H, I.unsuite ok, q⟩
/-- behind a suite with a name: the name is let go -/
theorem sp_ungone {a : Addr} {oe : Obj} {f : Flow} {s : Shared} {n : Str} {i : Nat} {q : Pos} (ok : X.Ok) (hN : X.N.Nodup) (hi : X.N[i]? = some n) (hl : X.env.kindOf n = some .local)
    (h : SP (X.suite a ((a, oe) :: (X.pn ++ pins))) [] (endsN D (some i)) f s) : wpAny (model X.prog X.w) X.A (do bindName X.env n .none; unbindBehindTheSuite X.env n q) (fun _ s7 => SP X pins D f s7) X.xe s := by
  cases f with
  | ret u => obtain ⟨v, σ, H, I, r, z⟩ := h; exact gone_ok (I.unsuite ok) hN hi hl fun s7 J => ⟨v, _, H, J, r, z⟩
  | next => obtain ⟨σ, H, I, z⟩ := h; exact gone_ok (I.unsuite ok) hN hi hl fun s7 J => ⟨_, H, J, z⟩
  | brk => obtain ⟨σ, H, I, z⟩ := h; exact gone_ok (I.unsuite ok) hN hi hl fun s7 J => ⟨_, H, J, z⟩
  | cont => obtain ⟨σ, H, I, z⟩ := h; exact gone_ok (I.unsuite ok) hN hi hl fun s7 J => ⟨_, H, J, z⟩
theorem try_n (hs : X.stack = X.env :: X.outer) (hf : X.env.frame = some X.env.locals) (hN : X.N.Nodup) (tk : Takes X Wout)
    (hb : ∀ (W : WX) (pn : List (Addr × Obj)) (xe : Value → Shared → Prop), Takes (X.tr pn xe) W → PassesOwn (model X.prog X.w) X.A X.env xe → PSs (X.tr pn xe) body (tb W))
    (hh : HsN X (h0 :: hds) l) : PS X (.Try body (h0 :: hds) [] [] pos) (fun D σ H => tb (wN X.K Wout D l) D σ H) := by
  refine ⟨fun pins s σ H D I h => ?_⟩
  have ok := I.ok
  have fr : X.A.frames = some (X.env :: X.outer) := ok.frames.trans (congrArg some hs)
  let goal : Value → Shared → Prop := fun e s1 => wpAny (model X.prog X.w) X.A (noteFrame e X.env) (fun _ s2 => wpAny (model X.prog X.w) X.A (setFlight e none) (fun _ s3 =>
    wpAny (model X.prog X.w) X.A (handleBy e X.env (h0 :: hds)) (SP X pins D) X.xe s3) X.xe s2) X.xe s1
  have catch_ : Takes (X.tr (X.pn ++ pins) goal) (wN X.K Wout D l) := fun u s' xx => by
    obtain ⟨a, B, sI, pins', σ', H', cls, d, rfl, J', nb, up, sky, na, os, ag, w⟩ := xx
    have J : Inv X pins σ' H' sI := J'.ofTry ok
    rw [hs] at sky
    refine Sky.land Zc.steady fr hf sky fun h3 fl3 up3 => ?_
    have all : ∀ {h : Heap} (fl : HandSPX.FlyingZ B (X.env :: X.outer) a (Zc cls d) h) (up' : s'.heap.UpToSlots h), ∃ oe, h.get? a = some oe ∧ Zc cls d oe ∧ (∃ vs, oe.data = .fields vs) ∧
        Inv X pins σ' H' { s' with heap := h } ∧ Inv (X.suite a ((a, oe) :: (X.pn ++ pins))) [] σ' H' { s' with heap := h } := fun {h} fl up' => by
      obtain ⟨oe, vs, he, hz, hd⟩ := fl.there
      have K : Inv X pins σ' H' { s' with heap := h } := J.landed nb fl.1 (up.trans up') os ag
      have out : a ∉ frs (X.env :: X.outer) := fun hm => by
        obtain ⟨_, o', e', hnf⟩ := fl.2.2.1.mem hm
        rw [he] at e'
        cases e'
        exact hnf _ hd
      have nL : a ≠ X.env.locals := fun z => out (List.mem_filterMap.mpr ⟨X.env, List.mem_cons_self, hf.trans (congrArg some z.symm)⟩)
      have nF : a ∉ X.fs := fun hm => by
        obtain ⟨e, he', q⟩ := List.mem_filterMap.mp hm
        exact out (List.mem_filterMap.mpr ⟨e, List.mem_cons_of_mem _ he', q⟩)
      exact ⟨oe, he, hz, ⟨vs, hd⟩, K, K.suite he hd na nL nF⟩
    obtain ⟨oe3, he3, hz3, _, J3, S3⟩ := all fl3 up3
    have go : ∀ (hs' : List ExceptHandler) (l' : List Hc), HsN X hs' l' → wN X.K Wout D l' cls d σ' H' → wpAny (model X.prog X.w) X.A (handleBy (.ref a) X.env hs') (SP X pins D) X.xe { s' with heap := h3 } := by
      intro hs' l' hk
      induction hk with
      | nil =>
        intro w
        refine wpAny_handleBy_nil ?_
        obtain ⟨_, _, _, oe, vs, T, oT, _, he, _, hd, h1, _⟩ := id fl3
        unfold PySem.passOn
        refine wpAny_bind (wpAny_field he hd h1 ?_)
        rw [if_neg (show ¬ ((Value.ref T == Value.none) = true) from by simp)]
        have last : wpAny (model X.prog X.w) X.A (setFlight (.ref a) X.env.frame) (fun _ s4 => wpAny (model X.prog X.w) X.A (throw (.ref a) : Sem Flow) (SP X pins D) X.xe s4) X.xe { s' with heap := h3 } := by
          rw [hf]
          refine HandSPX.setFlight_upZ fl3 fun h4 hh4 up4 => wpAny_throw (tk _ _ ⟨a, B, sI, pins, σ', H', cls, d, rfl, J, nb, (up.trans up3).trans up4, .inr (.inr ?_), na, os, ag, w⟩)
          rw [hs]
          exact hh4
        first
          | exact wpAny_bind (wpAny_pure (wpAny_bind last))
          | exact wpAny_bind last
      | @cons x h nm st sts p q hds2 l2 hc hn su r ih =>
        intro w
        obtain ⟨b, hb1, hyes, hno⟩ := w
        refine wpAny_handleBy_cons (codeAny_handlers_test ?_) (by intro z; cases z)
        have LM := PySem.W.exm_one (M := model X.prog X.w) J3.kIn (fun A Q E s k q => wpAny_typeOf_ref (k _ _ he3) (by rw [hz3.1]; exact q)) hb1
        have test : ∀ {Q : Value → Shared → Prop} {E : Value → Shared → Prop}, Q h.c { s' with heap := h3 } → wpAny (model X.prog X.w) (X.A.mark (some (.ref a))) (eval (.Name x p) X.env) Q E { s' with heap := h3 } := fun {Q E} q => by
          obtain ⟨g1, g2, hm | ⟨hm, hv, hnn⟩⟩ := hc
          · exact ld_glob (X := X.suite a ((a, oe3) :: (X.pn ++ pins))) S3 g1 hm q g2
          · exact ld_blt (X := X.suite a ((a, oe3) :: (X.pn ++ pins))) S3 g1 hm hv q hnn g2
        refine test (LM.here ?_)
        cases b with
        | false => exact ih (hno rfl)
        | true =>
          have yes := hyes rfl a na
          obtain ⟨c0, at0, ts0⟩ := h
          cases nm with
          | none =>
            cases at0 with
            | some i => exact (show False from hn).elim
            | none =>
              refine codeAny_handlers_suite (HandSPX.lands_againZ fl3 fun h4 fl4 up4 => ?_)
              obtain ⟨oe4, _, hz4, hd4, _, S4⟩ := all fl4 (up3.trans up4)
              exact wpAny_mono ((su a oe4 cls d (X.pn ++ pins) hz4 hd4).run [] _ _ H' _ S4 yes) (fun f s6 z => sp_unsuite ok z) fun _ _ z => z.elim
          | some n =>
            cases at0 with
            | none => exact (show False from hn).elim
            | some i =>
              obtain ⟨hi, hln⟩ := hn
              refine codeAny_handlers_suite_as (HandSPX.lands_againZ fl3 fun h4 fl4 up4 => ?_)
              obtain ⟨oe4, _, hz4, hd4, _, S4⟩ := all fl4 (up3.trans up4)
              refine store_ok (X := X.suite a ((a, oe4) :: (X.pn ++ pins))) (v := .ref a) S4 hN hi (.inl hln) rfl (fun s5 S5 => ?_) (.inr hln)
              exact wpAny_mono ((su a oe4 cls d (X.pn ++ pins) hz4 hd4).run [] s5 _ H' _ S5 yes) (fun f s6 z => sp_ungone ok hN hi hln z) fun _ _ z => z.elim
    exact go _ _ hh w
  refine wpAny_Try_except (wpAny_mono ((hb _ _ goal catch_ PassesOwn.looking).run [] s σ H D (I.toTry _) h) (fun f s1 z => ?_) fun _ _ z => z)
  cases f with
  | next => obtain ⟨σ', H', J', q⟩ := z; exact wpAny_execs_nil ⟨σ', H', J'.ofTry ok, q⟩
  | brk => obtain ⟨σ', H', J', q⟩ := z; exact ⟨σ', H', J'.ofTry ok, q⟩
  | cont => obtain ⟨σ', H', J', q⟩ := z; exact ⟨σ', H', J'.ofTry ok, q⟩
  | ret u => obtain ⟨v, σ', H', J', r, q⟩ := z; exact ⟨v, σ', H', J'.ofTry ok, r, q⟩
end
end Mn
end

section
set_option Elab.async false
set_option linter.all false
set_option maxRecDepth 100000
set_option maxHeartbeats 3200000
/-! M2r: len(set(t)), t a tuple of pairs. -/
namespace Mn
open PySem PySem.Spec PyProof.Rows L2

abbrev noSet (w : World) : Obj := { cls := .type "set", dict := none, data := .set #[] 0 (.fresh 0 0 (!w.params.followText "set-order")) }
section
variable {P : Program} {w : World} {A : Around} {E : Value → Shared → Prop} {s : Shared}
/-- what is there when set(t) is done -/
def SetDone (P : Program) (w : World) (h : Heap) (S : Addr) (ks : List (Addr × List Int)) (h' : Heap) : Prop :=
  (∃ L es ep t, SetTR P w h' S L es ep t ∧ Got ks ks.length L) ∧ ∀ b o, h.get? b = some o → h'.get? b = some o
theorem set_fill {l S : Addr} {items : Array Value} (ks : List (Addr × List Int)) {R : Result → Shared → Prop} {h0 : Heap} (hh : A.handled = none) (hl : s.heap.IsTuple l items) (hit : items.toList = ks.map fun p => Value.ref p.1)
    (hk : ∀ p ∈ ks, IsT P w h0 p.2 p.1) (hfew : ks.length < 64) (hu : A.units + 2 < cLine) (hS : s.heap.get? S = some (noSet w)) (hS0 : h0.get? S = none) (hlS : l ≠ S) (k0 : ∀ b o, h0.get? b = some o → s.heap.get? b = some o)
    (q : ∀ h' tk, SetDone P w h0 S ks h' → R (.ok (.ret .none)) { s with heap := h', toks := tk }) :
    wpAny (model P w) A.in1 (Builtin.«set.__init__» ⟨[.ref S, .ref l], []⟩) (fun fin s' => match fin with
      | .done f => R (.ok f) s'
      | .again c' => c'.quiet = true ∧ codeAny (model P w) A c' R s') (fun e s' => R (.error e) s') s := by
  have hisz : items.size = ks.length := by
    have z := congrArg List.length hit
    rw [Array.length_toList, List.length_map] at z
    exact z
  obtain ⟨ol, hol, hcl, nl, hdl⟩ := id hl
  obtain ⟨ocls, odict, odata, oslots⟩ := ol
  simp only at hcl hdl
  subst hcl; subst hdl
  have f1 := F.sub_tuple_set
  have f2 := F.sub_tuple_frozenset
  have f3 : (Value.type "tuple" == Value.type "dict") = false := by decide
  unfold Builtin.«set.__init__» noKeywords Builtin.Frozenset.updateFrom
  generalize hPI : pyIter = PI
  wp_walk
  subst hPI
  refine wpAny_pyIter_tuple hl ?_
  refine wpAny_bind (wpAny_runValue ?_)
  have hneI : l ≠ s.heap.objs.size := Nat.ne_of_lt (Heap.lt_size hol)
  have hSI : S ≠ s.heap.objs.size := Nat.ne_of_lt (Heap.lt_size hS)
  have val : ∀ (i : Nat) (v : Value), items[i]? = some v → ∃ p, ks[i]? = some p ∧ v = .ref p.1 := fun i v hv => by
    have z : items.toList[i]? = some v := by rw [Array.getElem?_toList]; exact hv
    rw [hit, List.getElem?_map] at z
    cases hq : ks[i]? with
    | none => rw [hq] at z; cases z
    | some p =>
      rw [hq] at z
      exact ⟨p, rfl, (Option.some.inj z).symm⟩
  have no0 : h0.get? s.heap.objs.size = none := by
    cases z : h0.get? s.heap.objs.size with
    | none => rfl
    | some o => exact absurd (Heap.lt_size (k0 _ _ z)) (Nat.lt_irrefl _)
  refine set_update_tups ((Walks.tuple (by simp [hh]) _ l hneI items).toS) S (by simp only [List.mem_cons, List.not_mem_nil, or_false, not_or]; exact ⟨hSI, hlS.symm⟩) ks hisz hfew val h0 hk hS0
    (fun b hb => by rw [List.mem_singleton.mp hb]; exact no0) hu (items.size - 0) 0 _ (by omega) (Nat.zero_le _)
    ⟨⟨_, Heap.get?_push_size _ rfl, rfl, rfl⟩, hl.push _⟩ (fun b o e => Heap.get?_push_of_some _ (k0 b o e)) ⟨[], #[], 0, _, setTR_fresh (Heap.get?_push_of_some _ hS), Got.zero ks⟩ fun s' L es ep t hm hT g hkp => ?_
  obtain ⟨h', g2, d', tk', os'⟩ := s'
  have eg : g2 = s.gens := hm.gens
  have ed : d' = s.drawn := hm.drawn
  have eo : os' = s.os := hm.os
  subst eg ed eo
  refine wpAny_pure ?_
  show wpAny _ _ (ret Value.none) _ _ _
  rw [hisz] at g
  exact wpAny_pure (q h' tk' ⟨⟨L, es, ep, t, hT, g⟩, hkp⟩)
theorem set_of_tup {l : Addr} {items : Array Value} (ks : List (Addr × List Int)) {Q : Value → Shared → Prop} (hh : A.handled = none) (hl : s.heap.IsTuple l items) (hit : items.toList = ks.map fun p => Value.ref p.1)
    (hk : ∀ p ∈ ks, IsT P w s.heap p.2 p.1) (hfew : ks.length < 64) (hu : A.units + 4 < cLine) (q : ∀ h' tk, SetDone P w s.heap s.heap.objs.size ks h' → Q (.ref s.heap.objs.size) { s with heap := h', toks := tk }) :
    wpAny (model P w) A (call (.type "set") [.ref l]) Q E s := by
  obtain ⟨c, tl, hmro⟩ := F.called_set.mro
  have g1 := F.called_set.made
  have g2 := F.called_set.sub
  have g3 := F.called_set.notType
  have g4 := F.called_set.canCreate
  have g5 := F.typeCall_set_1 (.ref l)
  have none_ : s.heap.get? s.heap.objs.size = none := by
    cases z : s.heap.get? s.heap.objs.size with
    | none => rfl
    | some o => exact absurd (Heap.lt_size z) (Nat.lt_irrefl _)
  have hlS : l ≠ s.heap.objs.size := by
    obtain ⟨o, ho, _⟩ := id hl
    exact Nat.ne_of_lt (Heap.lt_size ho)
  refine wpAny_call (codeAny_of_tree ?_)
  show wpAny _ _ (callAny (.type "set") _) _ _ _
  refine wpAny_pure ⟨Code.quiet_builtin _ (by decide +kernel), codeAny_builtin F.entry_type_call ?_⟩
  rw [Around.under_plain (weight_type_call_type "set" [.ref l] []) rfl]
  repeat (any_goals (first | assumption | wp_step))
  refine codeAny_mono (code_set_led1 (.ref l) (E := E) (Q₁ := fun obj s1 => obj = .ref s.heap.objs.size ∧ s1 = { s with heap := s.heap.push (noSet w) }) ⟨rfl, rfl⟩) fun r s1 hr => ?_
  cases r with
  | error e => exact hr
  | ok fl =>
    cases fl with
    | ret obj =>
      obtain ⟨rfl, rfl⟩ := hr
      have hS : (s.heap.push (noSet w)).get? s.heap.objs.size = some (noSet w) := Heap.get?_push_size _ rfl
      have hT : Shared.TypeIs { s with heap := s.heap.push (noSet w) } (.ref s.heap.objs.size) "set" := ⟨_, hS, rfl⟩
      have g6 := F.called_set.init.lookup
      have g7 := F.called_set.init.bind (.ref s.heap.objs.size)
      repeat (any_goals (first | assumption | wp_step))
      refine codeAny_mono (codeAny_call_builtin (R := wants (fun r s2 => r = .none ∧ ∃ h' tk, s2 = { s with heap := h', toks := tk } ∧ SetDone P w s.heap s.heap.objs.size ks h') E) F.called_set.init.plain F.entry_set_init (check_set_init_1 hT ?_)) fun r2 s2 hr2 => ?_
      · exact set_fill ks (by simp [hh]) (hl.push _) hit hk hfew (by show A.units + 1 + 2 < cLine; omega) hS none_ hlS (fun b o z => Heap.get?_push_of_some _ z) fun h' tk z => ⟨rfl, h', tk, rfl, z⟩
      · cases r2 with
        | error e => exact hr2
        | ok fl2 =>
          cases fl2 with
          | ret r =>
            obtain ⟨rfl, h', tk, rfl, z⟩ := hr2
            repeat (any_goals (first | assumption | wp_step))
            exact q _ _ z
          | _ => exact hr2.elim
    | _ => exact hr.elim
end
end Mn
end

section
set_option Elab.async false
set_option linter.all false
set_option maxRecDepth 100000
set_option maxHeartbeats 2000000
/-! M2s: len(set(t)) as an expression. -/
namespace Mn
open PySem PySem.Spec PyProof.Rows L2

theorem two_lists {α : Type} {ks L : List (Addr × α)} {x y : Addr × α} (hk : ks = [x, y]) (g1 : ∀ p ∈ L, p ∈ ks) (g2 : ∀ p ∈ ks, p.2 ∈ L.map (·.2)) (g3 : L.length ≤ 2) (nd : (L.map (·.2)).Nodup) : (x.2 = y.2 → L.length = 1) ∧ (x.2 ≠ y.2 → L.length = 2) := by
  subst hk
  have hx := g2 x (by simp)
  have hy := g2 y (by simp)
  match L, g3 with
  | [], _ => simp at hx
  | [a], _ =>
    refine ⟨fun _ => rfl, fun ne => ?_⟩
    simp at hx hy
    exact absurd (hx.trans hy.symm) ne
  | [a, b], _ =>
    refine ⟨fun e => ?_, fun _ => rfl⟩
    have ha := g1 a (by simp)
    have hb := g1 b (by simp)
    simp at nd
    have : a.2 = x.2 := by
      rcases List.mem_cons.mp ha with z | z
      · rw [z]
      · rw [List.mem_singleton.mp z, e]
    have : b.2 = x.2 := by
      rcases List.mem_cons.mp hb with z | z
      · rw [z]
      · rw [List.mem_singleton.mp z, e]
    exact absurd ((by assumption : a.2 = x.2).trans this.symm) nd
theorem pair_ints {F : Fx} {w : Wd} {n : Nat} {H : Hp} {a b : Int} {x : V} (r : Rp F w n H (.tup [.int a, .int b]) x) : ∃ p, x = .ref p ∧ SqT F.K H p ([a, b].map V.int) := by
  obtain ⟨p, xs, e, q, r1, t, e1, r2, r3, t2, e2, r4, r5⟩ := r
  refine ⟨p, e, ?_⟩
  have e5 : t2 = [] := r5
  rw [e1, e2, e5, show r1 = .int a from r2, show r3 = .int b from r4] at q
  exact q.sq
section
variable {X : Cx} {F : Fx} {E : L2.St → XK} {f : Env → Store → Res Val} {a : Expr} {p p2 q pos : Pos}
theorem ge_lset {k : Nat} (hK : X.K = F.K) (hr : Room k X.A) (hc : X.calm = true) (hg : Gl X "len") (hm : X.mg "len" = none) (hg2 : Gl X "set") (hm2 : X.mg "set" = none) (ha : PE X a (TEv F E f)) (na : starEach [a] X.env = (false, eval a X.env) :: starEach [] X.env) :
    PE X (.Call (.Name "len" p) [.Call (.Name "set" p2) [a] [] q] [] pos) (TEv F E fun ρ O => (f ρ O).bind fun x O1 => match lsetV x with
      | some n => .ok (.int n) O1
      | none => .bad) := by
  refine ⟨fun pins s σ H Q I ⟨w, ρ, O, sk, r, z⟩ => ?_⟩
  refine Call_ (ld_blt I hg hm boot_len ?_)
  refine PyProof.Rows.callWith_builtin1 (PyProof.Rows.args_cons ?_ rfl) rfl rfl
  refine Call_ (ld_blt I hg2 hm2 boot_set ?_)
  refine PyProof.Rows.callWith_type1 (PyProof.Rows.args_cons (thn (ha.run pins s σ H (fun y H1 => ∃ w1 O1 v, SOk F w1 O1 H1 ∧ Rp F w1 O1.length H1 v y ∧ Pst F w1 O1 H1 (match lsetV v with
      | some n => Res.ok (Val.int n) O1
      | none => .bad) (RE F Q) (E σ)) I (TEv.go sk r z fun v w1 O1 H1 y s1 r1 l1 ry z1 => ⟨w1, O1, v, s1, ry, z1⟩)) fun u s1 ⟨y, H1, I1, r1, w1, O1, v, sk1, rv, z1⟩ => PyProof.Rows.args_nil ?_) na) na rfl
  cases hn : lsetV v with
  | none => rw [hn] at z1; exact z1.elim
  | some n =>
    rw [hn] at z1
    unfold lsetV at hn
    split at hn
    · rename_i a b c d
      split at hn
      · cases hn
        obtain ⟨t, xs, ey, qt, x1, t1, e1, ra, x2, t2, e2, rb, e3⟩ := rv
        have e3 : t2 = [] := e3
        subst e3 e2 e1 ey
        obtain ⟨p1, ep1, q1⟩ := pair_ints ra
        obtain ⟨p2', ep2, q2⟩ := pair_ints rb
        subst ep1 ep2
        obtain rfl : u = Value.ref t := r1
        have qs := qt.sq
        rw [← hK] at qs q1 q2
        obtain ⟨its, rvs, hT, _⟩ := I1.tuple qs
        have hit : its.toArray.toList = ([(p1, [a, b]), (p2', [c, d])] : List (Addr × List Int)).map fun p => Value.ref p.1 := by
          cases rvs with
          | cons ru rr =>
            cases rr with
            | cons ru2 rr2 =>
              cases rr2
              cases ru
              cases ru2
              rfl
        have hu := hr.un
        refine set_of_tup (P := X.prog) (w := X.w) [(p1, [a, b]), (p2', [c, d])] (I1.ok.hd hc) hT hit (fun p hp => ?_) (by show 2 < 64; omega) (by omega) fun h' tk ⟨⟨L, es, ep, tb, R, g⟩, kp⟩ => ?_
        · rcases List.mem_cons.mp hp with rfl | hp
          · exact I1.isT q1
          · rw [List.mem_singleton.mp hp]
            exact I1.isT q2
        refine PyProof.Rows.args_nil ?_
        obtain ⟨o, ho, hex, hd⟩ := R.ob
        have I2 : Inv X pins σ H1 { s1 with heap := h', toks := tk } := I1.kept kp
        have gl := two_lists (ks := [(p1, [a, b]), (p2', [c, d])]) (L := L) rfl (fun p hp => List.mem_of_mem_take (g.sub p hp)) (fun p hp => g.all p (by rw [List.take_length]; exact hp)) g.len R.nd
        have hn : (es.size : Int) = if a = c ∧ b = d then 1 else 2 := by
          rw [SetTR.size (s := { s1 with heap := h', toks := tk }) R]
          by_cases e : a = c ∧ b = d
          · rw [if_pos e, gl.1 (by rw [e.1, e.2])]; rfl
          · rw [if_neg e, gl.2 (fun z => e (by
              have z' : ([a, b] : List Int) = [c, d] := z
              injection z' with z1 z2
              injection z2 with z2 _
              exact ⟨z1, z2⟩))]; rfl
        exact call_len_set ho hex hd (SetTR.fits (s := { s1 with heap := h', toks := tk }) R) (by rw [hn]; split <;> decide) ⟨.int _, H1, I2.tok _, ⟨_, by rw [hn]⟩, z1.here sk1 _ rfl⟩
      · cases hn
    · cases hn
end
end Mn
end

section
set_option Elab.async false
set_option linter.all false
set_option maxRecDepth 100000
set_option maxHeartbeats 2000000
/-! M2t: what a handler answers: constants, the error's field, its repr, a pair of these. -/
namespace Mn
open PySem PySem.Spec PyProof.Rows L2

def slotAt (σ : L2.St) (a : Addr) : Option Nat → Prop
  | none => True
  | some i => σ[i]? = some (some (.ref a))
def usesF : Ha → Bool
  | .c _ => false
  | .f => true
  | .rf => true
def usesX : Hx → Bool
  | .one a => usesF a
  | .pair a b => usesF a || usesF b
  | .cat _ a => usesF a
def FdOk (F : Fx) (c : Nat) (f : Str) : Prop := F.xf c = f ∧ L2.XfC F.K (F.ea c) ∧ PySem.W.findIn F.K (.ref (F.ea c)) f = some none
def tHa (F : Fx) (a : Addr) (cls : Value) (d : Option Addr) (at_ : Option Nat) (f : Str) (h : Ha) : TE := fun σ H Q => ∃ (w : Wd) (O : Store) (c : Nat) (p : List Val) (v : Val), SOk F w O H ∧ ExR F w O.length H c p cls d ∧ slotAt σ a at_ ∧ (usesF h = true → FdOk F c f) ∧
  haV p O h = some v ∧ ∀ x, Rp F w O.length H v x → Q x H
def tHx (F : Fx) (a : Addr) (cls : Value) (d : Option Addr) (at_ : Option Nat) (f : Str) (h : Hx) : TS := fun D σ H => ∃ (w : Wd) (O : Store) (c : Nat) (p : List Val) (v : Val), SOk F w O H ∧ ExR F w O.length H c p cls d ∧ slotAt σ a at_ ∧ (usesX h = true → FdOk F c f) ∧
  hxV p O h = some v ∧ ∀ w' H' x, SOk F w' O H' → Le w O H w' O H' → Rp F w' O.length H' v x → D.rt x H'
section
variable {F : Fx} {X : Cx} {a : Addr} {oe : Obj} {cls : Value} {d : Option Addr} {pn : List (Addr × Obj)} {at_ : Option Nat} {f : Str} {e : Expr} {h : Ha} {pos p1 p2 : Pos}
theorem h_c {v : Val} {x : V} (he : PE X e (tC x)) (r : ∀ w n H, Rp F w n H v x) : PE X e (tHa F a cls d at_ f (.c v)) := he.imp fun σ H Q ⟨w, O, c, p, v', s, ex, sl, fo, hv, q⟩ => by
  have e' : v = v' := Option.some.inj hv
  subst e'
  exact q x (r _ _ _)
theorem h_f {y : Str} {i : Nat} (hK : X.K = F.K) (hz : Zc cls d oe) (hf : ∃ vs, oe.data = .fields vs) (hN : X.N[i]? = some y) (hv : Vis X.env.scope y) (hd : (y == ("__debug__" : Str)) = false) (hcd : (y == ("__classdict__" : Str)) = false) :
    PE (X.suite a ((a, oe) :: pn)) (.Attribute (.Name y p1) f p2) (tHa F a cls d (some i) f .f) := by
  refine ⟨fun pins s σ H Q I ⟨w, O, c, p, v, sk, ex, sl, fo, hv2, q⟩ => ?_⟩
  obtain ⟨f1, f2, f3⟩ := fo rfl
  obtain ⟨x1, x2, x3⟩ := ex
  match p, x3, hv2 with
  | [u], x3, hv2 =>
    have e' : u = v := Option.some.inj hv2
    subst e'
    obtain ⟨da, x, d1, d2, d3⟩ := x3
    have P := pe_xf (X := X) (a := a) (C := F.ea c) (oe := oe) (cls := cls) (d := d) (pn := pn) (pos := p2) (n := f) (by rw [hK]; exact f2) (by rw [hK]; exact f3) hz hf (pe_var (X := X.suite a ((a, oe) :: pn)) (pos := p1) (i := i) hN hv hd hcd) (by rfl)
    refine P.run pins s σ H Q I ⟨.ref a, sl, rfl, x2, da, _, x, d1, d2, ?_, q x d3⟩
    rw [f1]
    simp
theorem h_rf (hK : X.K = F.K) (hg : Gl X "repr") (hm : X.mg "repr" = none) (hgd : X.A.guards = some []) (hu : X.A.units + 200 < cLine) (he : PE (X.suite a ((a, oe) :: pn)) e (tHa F a cls d at_ f .f)) (hs : starEach [e] X.env = (false, eval e X.env) :: starEach [] X.env) :
    PE (X.suite a ((a, oe) :: pn)) (.Call (.Name "repr" p1) [e] [] p2) (tHa F a cls d at_ f .rf) := by
  refine (pe_callB (X := X.suite a ((a, oe) :: pn)) (call_repr (X := X.suite a ((a, oe) :: pn)) (F := F) hK hgd hu) hg hm (by decide +kernel) (pa_cons he pa_nil hs) (he := hs)).imp fun σ H Q ⟨w, O, c, p, v, s, ex, sl, fo, hv, q⟩ => ?_
  have e1 : ∀ p, haV p O .rf = (match p with
    | [v] => match reprV v O with | some s => some (Val.str s) | none => none
    | _ => none) := fun p => rfl
  rw [e1] at hv
  split at hv
  · rename_i v0
    split at hv
    · rename_i t ht
      have e' : Val.str t = v := Option.some.inj hv
      subst e'
      exact ⟨w, O, c, [v0], v0, s, ex, sl, fo, rfl, fun x rx => ⟨w, O, v0, x, t, rfl, s, rx, ht, q _ rfl⟩⟩
    · cases hv
  · cases hv
theorem h_one {X : Cx} (he : PE X e (tHa F a cls d at_ f h)) : PSs X [.Return (some e) pos] (tHx F a cls d at_ f (.one h)) :=
  pss_one ((ps_ret he).imp fun D σ H ⟨w, O, c, p, v, s, ex, sl, fo, hv, q⟩ => ⟨w, O, c, p, v, s, ex, sl, fo, hv, fun x rx => q w H x s Le.refl rx⟩)
theorem h_pair {X : Cx} {e2 : Expr} {h2 : Ha} {k : Nat} (he : PE X e (tHa F a cls d at_ f h)) (he2 : PE X e2 (tHa F a cls d at_ f h2)) (n1 : starEach [e, e2] X.env = (false, eval e X.env) :: starEach [e2] X.env) (n2 : starEach [e2] X.env = (false, eval e2 X.env) :: starEach [] X.env) :
    PSs X [.Return (some (.Tuple [e, e2] k p1)) pos] (tHx F a cls d at_ f (.pair h h2)) :=
  pss_one ((ps_ret (pe_tup (pa_cons he (pa_cons he2 pa_nil n2) n1))).imp fun D σ H ⟨w, O, c, p, v, s, ex, sl, fo, hv, q⟩ => by
    have hv : (match haV p O h, haV p O h2 with | some x, some y => some (Val.tup [x, y]) | _, _ => none) = some v := hv
    split at hv
    · rename_i v1 v2 h1 h2'
      have e' : Val.tup [v1, v2] = v := Option.some.inj hv
      subst e'
      refine ⟨w, O, c, p, v1, s, ex, sl, fun z => fo (show (usesF h || usesF h2) = true by rw [z]; rfl), h1, fun x1 r1 => ⟨w, O, c, p, v2, s, ex, sl, fun z => fo (show (usesF h || usesF h2) = true by rw [z, Bool.or_true]), h2', fun x2 r2 => ⟨by simp [sizeLine_eq], fun b hb => ?_⟩⟩⟩
      obtain ⟨s1, l1⟩ := s.alloc (.tup [x1, x2]) (fun _ z => nomatch z) hb
      exact q _ _ _ s1 l1 ⟨b, [x1, x2], rfl, .inl ⟨.inr rfl, upd_same⟩, x1, [x2], rfl, r1.le s l1, x2, [], rfl, r2.le s l1, rfl⟩
    · cases hv)
end
end Mn
end

section
set_option Elab.async false
set_option linter.all false
set_option maxRecDepth 100000
set_option maxHeartbeats 2000000
/-! M2u: a zip object in a variable, walked once, in the next statement. -/
namespace Mn
open PySem PySem.Spec PyProof.Rows L2

/-! ### objects that are told exactly, for a while -/
def TrkO (a : Addr) (o : Obj) : HO := .ext fun h => h.get? a = some o
def trk (H : Hp) (n : Nat) (L : List Obj) : Hp := fun b => if n ≤ b then (match L[b - n]? with
  | some o => some (TrkO b o)
  | none => H b) else H b
theorem trk_lt {H : Hp} {n : Nat} {L : List Obj} {b : Addr} (h : b < n) : trk H n L b = H b := if_neg (Nat.not_le.mpr h)
theorem trk_at {H : Hp} {n : Nat} {L : List Obj} {i : Nat} {o : Obj} (h : L[i]? = some o) : trk H n L (n + i) = some (TrkO (n + i) o) := by
  unfold trk
  rw [if_pos (Nat.le_add_right _ _), Nat.add_sub_cancel_left, h]
theorem trk_cases (H : Hp) (n : Nat) (L : List Obj) (b : Addr) : trk H n L b = H b ∨ ∃ i o, b = n + i ∧ L[i]? = some o ∧ trk H n L b = some (TrkO b o) := by
  by_cases hb : n ≤ b
  · cases h : L[b - n]? with
    | none => exact .inl (by unfold trk; rw [if_pos hb, h])
    | some o => exact .inr ⟨b - n, o, (Nat.add_sub_cancel' hb).symm, h, by unfold trk; rw [if_pos hb, h]⟩
  · exact .inl (if_neg hb)
section
variable {X : Cx} {pins : List (Addr × Obj)} {σ : L2.St} {H : Hp} {s : Shared}
theorem Inv.trk {h' : Heap} {t' : Nat} {L : List Obj} (I : Inv X pins σ H s) (k : ∀ b u, s.heap.get? b = some u → h'.get? b = some u) (hL : ∀ i o, L[i]? = some o → h'.get? (s.heap.objs.size + i) = some o) :
    Inv X pins σ (Mn.trk H s.heap.objs.size L) { s with heap := h', toks := t' } := by
  have lt : ∀ b u, H b = some u → Mn.trk H s.heap.objs.size L b = some u := fun b u e => by rw [trk_lt (I.hok.lt e)]; exact e
  refine I.un ⟨fun b u q _ _ _ => k b u q, fun b u q _ _ _ => ⟨u.slots, k b u q⟩, fun b u q n _ => by rw [trk_lt (Heap.lt_size q)]; exact n, fun b u q _ => ⟨u, k b u q⟩, fun b xs q => lt b _ q, fun b o u q => lt b _ q, fun b ps q => ⟨#[], by rw [lt b _ q]; simp⟩⟩ fun b u e => ?_
  rcases trk_cases H s.heap.objs.size L b with h | ⟨i, o, e1, e2, e3⟩
  · rw [h] at e
    exact (I.hok b u e).stay (fun c v _ q => k c v q) (fun c z => lt c _ z) fun c xs z => lt c _ z
  · rw [e3] at e
    cases e
    subst e1
    exact ⟨hL i o e2, ⟨_, hL i o e2⟩, fun h1 h2 q kk => kk _ q⟩
theorem Inv.untrk {n : Nat} {L : List Obj} (I : Inv X pins σ (Mn.trk H n L) s) (hn : ∀ i o, L[i]? = some o → H (n + i) = none) : Inv X pins σ H s := by
  have up : ∀ b u, H b = some u → Mn.trk H n L b = some u := fun b u e => by
    rcases trk_cases H n L b with h | ⟨i, o, e1, e2, e3⟩
    · rw [h]; exact e
    · subst e1
      rw [hn i o e2] at e
      cases e
  have dn : ∀ b u, Mn.trk H n L b = some u → (∀ φ, u ≠ .ext φ) → H b = some u := fun b u e ne => by
    rcases trk_cases H n L b with h | ⟨i, o, e1, e2, e3⟩
    · rw [← h]; exact e
    · rw [e3] at e
      cases e
      exact (ne _ rfl).elim
  have hok : HOk X.prog X.w H s.heap := fun b u e => (I.hok b u (up b u e)).stay (fun _ _ _ z => z) (fun c z => dn c _ z fun _ w => (nomatch w)) fun c xs z => dn c _ z fun _ w => (nomatch w)
  have nn : ∀ b, Mn.trk H n L b = none → H b = none := fun b z => by
    rcases trk_cases H n L b with h | ⟨i, o, e1, e2, e3⟩
    · rw [← h]; exact z
    · rw [e3] at z
      cases z
  have u : Un X.fs [] (Mn.trk H n L) H s.heap s.heap := ⟨fun _ _ e _ _ _ => e, fun _ o e _ _ _ => ⟨o.slots, e⟩, fun b o _ z _ => nn b z, fun _ o e _ => ⟨o, e⟩, fun b xs z => dn b _ z fun _ w => (nomatch w), fun b o x z => dn b _ z fun _ w => (nomatch w), fun b ps z => ⟨#[], by rw [dn b _ z fun _ w => (nomatch w)]; simp⟩⟩
  exact I.un (t' := s.toks) u hok
theorem fp_of {H' : Hp} {a : Addr} {u : HO} (I : Inv X pins σ H' s) (h : H' a = some u) (e : H a = none) (hn : X.s_0.heap.objs.size ≤ a) : FpOk X pins H a := by
  refine ⟨e, fun z => ?_, fun z => ?_, .inr hn, fun x c e z => ?_, fun p hp z => ?_⟩
  · rw [z, I.free] at h
    cases h
  · obtain ⟨_, o, ho, _⟩ := I.ok.funs.mem z
    exact absurd (Nat.lt_of_lt_of_le (Heap.lt_size ho) hn) (Nat.lt_irrefl _)
  · have q := I.freeC x c e
    rw [z, h] at q
    cases q
  · have q := (I.pin p hp).2.1
    rw [z, h] at q
    cases q
end

/-! ### zip(a, b) as a value -/
/-- at n lie the two iterators, their pair, the pair of items, the zip object -/
def ZipSt (b1 b2 : Bool) (a1 a2 : Addr) (n : Nat) (h : Heap) : Prop :=
  IsZip h (n + 4) (n + 2) (n + 3) .none ∧ IsTupOf2 h (n + 2) (.ref n) (.ref (n + 1)) ∧ (∃ x y, IsTupOf2 h (n + 3) x y) ∧ ItB b1 h n a1 0 ∧ ItB b2 h (n + 1) a2 0 ∧ a1 ≠ n + 3 ∧ a2 ≠ n + 3
def tZipV (K : PySem.W.Frag) (n0 : Nat) (t : TA) : TE := fun σ H Q => t σ H fun vs H1 => ∃ b1 b2 a1 a2 xs ys, vs = [V.ref a1, .ref a2] ∧ SqB K b1 H1 a1 xs ∧ SqB K b2 H1 a2 ys ∧
  ∀ (n : Nat) (L : List Obj), n0 ≤ n → L.length = 5 → (∀ i, H1 (n + i) = none) → (∀ h : Heap, (∀ i o, L[i]? = some o → h.get? (n + i) = some o) → ZipSt b1 b2 a1 a2 n h) → Q (.ref (n + 4)) (trk H1 n L)
section
variable {X : Cx} {e e2 : Expr} {ta : TA} {p pos tpos : Pos} {elts : List Expr} {kk : Nat} {x : Str} {k : Nat}
theorem pe_zipV (hg : Gl X "zip") (hm : X.mg "zip" = none) (ha : PA X [e, e2] ta) (hs : starEach [e, e2] X.env = (false, eval e X.env) :: starEach [e2] X.env) (hpl : (backTo pos (starEach [e2] X.env)).any (·.1) = false) :
    PE X (.Call (.Name "zip" p) [e, e2] [] pos) (tZipV X.K X.s_0.heap.objs.size ta) := by
  refine ⟨fun pins s σ H Q I h => ?_⟩
  refine Call_ (ld_blt I hg hm PyProof.Rows.boot_zip (PyProof.Rows.callWith_type1 (thn (ha.run pos pins s σ H _ I h) fun us s1 ⟨vs, H1, I1, r1, q1⟩ => ?_) hs hpl))
  obtain ⟨b1, b2, a1, a2, xs, ys, ex, hqx, hqy, q⟩ := q1
  subst ex
  cases r1 with
  | cons r rr =>
    cases rr with
    | cons r' rr =>
      cases rr
      cases r
      cases r'
      obtain ⟨its, rv, p1⟩ := Inv.seqB I1 hqx
      obtain ⟨its2, rv2, p2⟩ := Inv.seqB I1 hqy
      have la := p1.lt
      have lb := p2.lt
      obtain ⟨o1, B1, f1⟩ := beginsB b1 a1 its.toArray
      obtain ⟨o2, B2, f2⟩ := beginsB b2 a2 its2.toArray
      refine zip_begins2 B1 B2 p1 p2 fun h' hz hTI hTO h1 h2 hsz hk => ?_
      have L1 : ∀ i, i < 5 → ∃ o, h'.get? (s1.heap.objs.size + i) = some o := fun i hi => by
        obtain ⟨oa, _, _, e1, _⟩ := (f1 _ _ h1).obj
        obtain ⟨ob, _, _, e2, _⟩ := (f2 _ _ h2).obj
        match i, hi with
        | 0, _ => exact ⟨_, e1⟩
        | 1, _ => exact ⟨_, e2⟩
        | 2, _ => exact ⟨_, hTI⟩
        | 3, _ => exact ⟨_, hTO⟩
        | 4, _ => exact ⟨_, hz⟩
      let L : List Obj := (List.range 5).map fun i => (h'.get? (s1.heap.objs.size + i)).getD { cls := .none, data := .plain }
      have LL : ∀ i o, L[i]? = some o → h'.get? (s1.heap.objs.size + i) = some o := fun i o e => by
        have hi : i < 5 := by
          have := (List.getElem?_eq_some_iff.mp e).1
          simpa [L] using this
        obtain ⟨o', e'⟩ := L1 i hi
        have e2 : L[i]? = some ((h'.get? (s1.heap.objs.size + i)).getD { cls := .none, data := .plain }) := by
          simp [L, List.getElem?_map, List.getElem?_range hi]
        rw [e2, e'] at e
        rw [e', ← Option.some.inj e]
        rfl
      have LG : ∀ i, i < 5 → ∀ o, h'.get? (s1.heap.objs.size + i) = some o → L[i]? = some o := fun i hi o e => by
        have e2 : L[i]? = some ((h'.get? (s1.heap.objs.size + i)).getD { cls := .none, data := .plain }) := by
          simp [L, List.getElem?_map, List.getElem?_range hi]
        rw [e2, e]
        rfl
      have I2 : Inv X pins σ (trk H1 s1.heap.objs.size L) { s1 with heap := h' } := Inv.trk (t' := s1.toks) I1 hk LL
      refine ⟨.ref (s1.heap.objs.size + 4), _, I2, rfl, q _ L I1.sz (by simp [L]) (fun i => I1.hok.fresh (Nat.le_add_right _ _)) fun h hh => ?_⟩
      have kp : ∀ i, i < 5 → ∀ o, h'.get? (s1.heap.objs.size + i) = some o → h.get? (s1.heap.objs.size + i) = some o := fun i hi o e => hh i o (LG i hi o e)
      refine ⟨kp 4 (by decide) _ hz, kp 2 (by decide) _ hTI, ⟨_, _, kp 3 (by decide) _ hTO⟩, ItB.at (f1 _ _ h1) fun o q => kp 0 (by decide) o q, ItB.at (f2 _ _ h2) fun o q => kp 1 (by decide) o q, fun q => ?_, fun q => ?_⟩
      · rw [q] at la
        exact absurd la (Nat.not_lt.mpr (Nat.le_add_right _ _))
      · rw [q] at lb
        exact absurd lb (Nat.not_lt.mpr (Nat.le_add_right _ _))
def iZipN (K : PySem.W.Frag) (n0 k : Nat) : TI := fun σ H R => ∃ (n : Nat) (L : List Obj) (H1 : Hp) (b1 b2 : Bool) (a1 a2 : Addr), σ[k]? = some (some (.ref (n + 4))) ∧ H = trk H1 n L ∧ n0 ≤ n ∧ L.length = 5 ∧ (∀ i, H1 (n + i) = none) ∧
  (∀ h : Heap, (∀ i o, L[i]? = some o → h.get? (n + i) = some o) → ZipSt b1 b2 a1 a2 n h) ∧ R (ItzB K b1 b2 a1 a2) H1
theorem pi_zipN (hN : X.N[k]? = some x) (hv : Vis X.env.scope x) (hd : (x == ("__debug__" : Str)) = false) (hcd : (x == ("__classdict__" : Str)) = false) : PI X (.Tuple elts kk tpos) (.Name x p) (iZipN X.K X.s_0.heap.objs.size k) := by
  refine ⟨fun pins s σ H R I h => ?_⟩
  obtain ⟨n, L, H1, b1, b2, a1, a2, hs, eH, hn, hL, hnone, hst, q⟩ := h
  refine thn ((pe_var (pos := p) (i := k) hN hv hd hcd).run pins s σ H (fun v H1 => v = .ref (n + 4) ∧ H1 = H) I ⟨.ref (n + 4), hs, rfl, rfl⟩) fun u s1 ⟨v, H2, I1, r1, ev, eH2⟩ => ?_
  subst ev
  rw [eH2, eH] at I1
  cases r1
  have A : ZApart (n + 4) (n + 2) (n + 3) n (n + 1) := by
    constructor <;> intro q <;> have q' : (_ : Nat) = _ := q <;> omega
  have at_ : ∀ i, i < 5 → ∃ o, L[i]? = some o := fun i hi => ⟨_, List.getElem?_eq_getElem (by omega)⟩
  have st := hst s1.heap fun i o e => (I1.hok (n + i) _ (trk_at e)).1
  have I2 := Inv.untrk I1 fun i o e => hnone i
  refine (turn_zipB (P := X.prog) (w := X.w) (K := X.K) (elts := elts) (kk := kk) (tpos := tpos) (b1 := b1) (b2 := b2) (a1 := a1) (a2 := a2) A).self X.A 0 s1 _ _ st ?_
  refine ⟨n + 4, [n + 4, n + 2, n + 3, n, n + 1], _, _, H1, rfl, I2, turn_zipB A, st, fun c hcm => ?_, q⟩
  have e' : c = n + 4 ∨ c = n + 2 ∨ c = n + 3 ∨ c = n ∨ c = n + 1 := by simpa using hcm
  have go : ∀ i, i < 5 → FpOk X pins H1 (n + i) := fun i hi => by
    obtain ⟨o, ho⟩ := at_ i hi
    exact fp_of I1 (trk_at ho) (hnone i) (Nat.le_trans hn (Nat.le_add_right _ _))
  rcases e' with z | z | z | z | z
  · rw [z]; exact go 4 (by decide)
  · rw [z]; exact go 2 (by decide)
  · rw [z]; exact go 3 (by decide)
  · rw [z]; exact go 0 (by decide)
  · rw [z]; exact go 1 (by decide)
end

/-! ### the pair of statements -/
theorem ROk.forget {F : Fx} {w : Wd} {n : Nat} {H : Hp} {ρ : Env} {σ : L2.St} (r : ROk F w n H ρ σ) (k : Nat) : ROk F w n H (ρ.set k none) σ := ⟨by rw [List.length_set]; exact r.len, fun i v e => by
  by_cases hi : k = i
  · subst hi
    by_cases hk : k < ρ.length
    · rw [List.getElem?_set_self hk] at e
      cases e
    · rw [List.getElem?_eq_none (by rw [List.length_set]; omega)] at e
      cases e
  · rw [List.getElem?_set_ne hi] at e
    exact r.get i v e⟩
theorem set_none_none {ρ : Env} {k : Nat} : (ρ.set k none).set k none = ρ.set k none := by simp
section
variable {X : Cx} {F : Fx} {E : XK} {fs : Env → Store → Res (List Val)} {g : Env → Store → Res Val} {a b elt : Expr} {ifs elts : List Expr} {scope : Scope} {own : List (Str × Nat)} {gt : Val → Env → Store → Res Env} {gc : Env → Store → Res Bool} {x : Str} {k kk : Nat} {kp kl fz : Bool} {p1 p2 p3 p4 p5 p6 p7 p8 lpos tpos : Pos}
theorem gs_zipret (hK : X.K = F.K) (hc : X.calm = true) (hN : X.N.Nodup) (hk : X.N[k]? = some x) (hl : Loc X.env.scope x) (hv : Vis X.env.scope x) (hd : (x == ("__debug__" : Str)) = false) (hcd : (x == ("__classdict__" : Str)) = false) (hf : X.fn x = true ∨ X.env.scope.names.lookup x = some .local)
    (hg1 : Gl X "zip") (hm1 : X.mg "zip" = none) (hg2 : Gl X "tuple") (hm2 : X.mg "tuple" = none) (ha : PA X [a, b] (TAv F (fun _ => E) fs)) (hs : starEach [a, b] X.env = (false, eval a X.env) :: starEach [b] X.env) (hpl : (backTo p3 (starEach [b] X.env)).any (·.1) = false)
    (ok : BlkOk X.N X.env.scope scope own)
    (hg : ∀ (s : Shared) (H : Hp) (C : Addr) (cl : List (Str × Addr)) (fp : List Addr), PG (X.blk s H scope (compEnvC scope cl C X.env) fp) (.Tuple elts kk tpos) (TGv F XF (Tw (own.map (·.2))) gt))
    (ht : ∀ (s : Shared) (H : Hp) (C : Addr) (cl : List (Str × Addr)) (fp : List Addr), PTs (X.blk s H scope (compEnvC scope cl C X.env) fp) ifs (TCv F (fun _ => XF) gc))
    (he : ∀ (s : Shared) (H : Hp) (C : Addr) (cl : List (Str × Addr)) (fp : List Addr), PE (X.blk s H scope (compEnvC scope cl C X.env) fp) elt (TEv F (fun _ => XF) g)) :
    PSs X [.Assign [.Name x p1] (.Call (.Name "zip" p2) [a, b] [] p3) p4, .Return (some (.Call (.Name "tuple" p5) [.ListComp elt [⟨.Tuple elts kk tpos, .Name x p6, ifs, 0⟩] scope lpos] [] p7)) p8]
      (TSv F E fun ρ O => match Nat.blt k ρ.length with
        | true => (((lcF kl fz (mkR .zip fs) gt gc g (own.map (·.2)) (ρ.set k none) O).bind fun x O1 => (Res.ok ([] : List Val) O1).bind fun xs O2 => Res.ok (x :: xs) O2).bind fun vs O1 => ofO2 (bltV .tuple kp vs O1)).bind fun v O1 => .ok (.rt v) O1
        | false => .bad) := by
  have S1 := ps_set (pos := p4) (pos' := p1) hN hk hl (pe_zipV (p := p2) (pos := p3) hg1 hm1 ha hs hpl) rfl hf
  have PL := pe_lc (pos := lpos) (elt := elt) (ifs := ifs) hc hN (pi_zipN (p := p6) (elts := elts) (kk := kk) (tpos := tpos) hk hv hd hcd) ok hg ht he (fun _ => rfl)
  have S2 := ps_ret (pos := p8) (pe_callTy (p := p5) (pos := p7) (cr_tuple (F := F) hK (kp := kp)) hg2 hm2 (by decide +kernel) (pa_cons PL pa_nil rfl) (by decide) (by decide) rfl rfl)
  refine (pss_cons S1 (pss_one S2)).imp fun D σ H ⟨w, ρ, O, s, r, z⟩ => ?_
  dsimp only at z
  split at z
  case h_2 => exact z.elim
  rename_i hkl
  have hkl := Nat.blt_eq.mp hkl
  have eF : (((lcF kl fz (mkR .zip fs) gt gc g (own.map (·.2)) (ρ.set k none) O).bind fun x O1 => (Res.ok ([] : List Val) O1).bind fun xs O2 => Res.ok (x :: xs) O2).bind fun vs O1 => ofO2 (bltV .tuple kp vs O1)).bind (fun v O1 => Res.ok (Fl.rt v) O1) =
      (fs (ρ.set k none) O).bind fun vs O1 => match mkIt .zip vs O1 with
        | some it => ((loopI (itGet it) (lcT fz gt gc g (ρ.set k none) (own.map (·.2))) TURNS 0 [] O1).bind fun acc O2 => ofO2 (newL kl acc.reverse O2)).bind fun x O2 => (ofO2 (bltV .tuple kp [x] O2)).bind fun v O3 => Res.ok (Fl.rt v) O3
        | none => .bad := by
    unfold lcF mkR
    rw [Res.bind_assoc, Res.bind_assoc, Res.bind_assoc, Res.bind_assoc]
    congr 1
    funext vs O1
    cases mkIt .zip vs O1 <;> rfl
  rw [eF] at z
  show TAv F (fun _ => E) fs σ H _
  refine TAv.goE (E := fun _ => E) s (r.forget k) z fun vs w1 O1 H1 xs e s1 r1 l1 rx z1 => ?_
  split at z1
  · rename_i it hit
    unfold mkIt at hit
    split at hit
    all_goals first | contradiction | skip
    split at hit
    · rename_i l m hl' hm'
      cases hit
      obtain ⟨x1, y1, rfl, hx, hy⟩ := rx.of2
      obtain ⟨q1, ys, rfl, e2, e3⟩ := hx.seqB s1 hl'
      obtain ⟨q2, zs, rfl, f2, f3⟩ := hy.seqB s1 hm'
      refine ⟨_, _, q1, q2, ys, zs, rfl, by rw [hK]; exact e2, by rw [hK]; exact f2, fun n L hn hL hnone hst => ?_⟩
      have kl' : k < σ.length := by rw [← r1.len, List.length_set]; exact hkl
      have r2 : ROk F w1 O1.length H1 (ρ.set k none) (σ.set k (some (.ref (n + 4)))) := by
        have q := r1.unset k (some (.ref (n + 4)))
        rw [set_none_none] at q
        exact q
      refine ⟨n, L, H1, _, _, q1, q2, by rw [List.getElem?_set_self kl'], rfl, hn, hL, hnone, hst, ?_⟩
      refine lc_imp1 (kp := kl) (Q := fun x H1 => rBlt F .tuple kp [x] H1 D.rt) s1 r2 (E := E) (z1.bind.imp fun v w2 O2 H2 s2 l2 z2 y ry => ?_) (itR_zip hK s1 hx hy)
      cases eb : bltV .tuple kp [v] O2 with
      | none => rw [eb] at z2; exact z2.elim
      | some p =>
        obtain ⟨o, O3⟩ := p
        rw [eb] at z2
        exact ⟨w2, O2, [v], o, O3, s2, RpL.one ry, eb, fun w' H' x' s' l' rx' => z2 w' H' s' l' x' rx'⟩
    · cases hit
  · exact z1.elim
end
end Mn
end

section
set_option Elab.async false
set_option linter.all false
/-! M3a: the erasure of the model's syntax into the interpreter's. Total: what it does not serve is bad. -/
namespace Mn
open PySem L2

/-- the program's names -/
structure Nm where
  fns : List (Str × Option Str)
  cls : List Str
  atts : List Str
  cons : List Str
  excs : List (Str × Bool)
  /-- defs that change their first argument's list -/
  muts : List Str
  /-- defs that hand back a list that is still to be changed -/
  keeps : List Str
  /-- defs that keep lists within lists live -/
  opens : List (Str × Option Str)
  /-- the builtin names that stand for themselves -/
  blts : List Str
  /-- defs whose table of code objects is asked for -/
  tabs : List (Str × Option Str) := []
  /-- defs that make lambdas: their table of code objects is asked for -/
  lams : List (Str × Option Str) := []
  /-- defs that take a lambda and call it at once, in a try -/
  takers : List Str := []
  /-- of an exception with an own __init__: its field, the number of its built-in base -/
  xfl : List (Str × Nat) := []

def ixOf {α : Type} [DecidableEq α] (x : α) : List α → Option Nat
  | [] => none
  | y :: r => match decide (y = x) with
    | true => some 0
    | false => match ixOf x r with | some i => some (i + 1) | none => none
def lookK (sc : Scope) (x : Str) : Option NameKind := sc.names.lookup x
def isGl (sc : Scope) (x : Str) : Bool := match lookK sc x with | some .globalImplicit => true | _ => false
def isVis (sc : Scope) (x : Str) : Bool := match lookK sc x with | some .local => true | some .cell => true | some .free => true | _ => false
def excIx (l : List (Str × Bool)) (x : Str) : Option (Nat × Bool) := match l with
  | [] => none
  | (y, b) :: r => match decide (y = x) with
    | true => some (0, b)
    | false => match excIx r x with | some (i, b) => some (i + 1, b) | none => none
/-- a name that is read by its text -/
def nmOk (x : Str) : Bool := !(x == ("__debug__" : Str)) && !(x == ("__classdict__" : Str))

def notStar : Expr → Bool
  | .Starred _ _ => false
  | _ => true
def noStar (es : List Expr) : Bool := es.all notStar
def notSet : Expr → Bool
  | .Set _ _ _ => false
  | _ => true
def notIf : Expr → Bool
  | .IfExp _ _ _ _ => false
  | _ => true
def isSlice : Expr → Bool
  | .Slice .. => true
  | _ => false
def isTuple : Expr → Bool
  | .Tuple .. => true
  | _ => false
def isLc : Expr → Bool
  | .ListComp .. => true
  | .SetComp .. => true
  | .DictComp .. => true
  | _ => false
/-- not a call without arguments -/
def baseOk : Expr → Bool
  | .Call _ [] _ _ => false
  | _ => true

def erA (f : Expr → Ex) : List Expr → Exs
  | [] => .nil
  | e :: r => match e with
    | .Starred e _ => .star (f e) (erA f r)
    | e => .cons (f e) (erA f r)
def erOp : Operator → Option Bop
  | .Add => some .add | .Sub => some .sub | .Mult => some .mul | .FloorDiv => some .fdiv | .Mod => some .mod | .Pow => some .pow
  | _ => none
def erCmp : CmpOp → Option Cop
  | .Eq => some .eq | .NotEq => some .ne | .Lt => some .lt | .LtE => some .le | .Gt => some .gt | .GtE => some .ge | .In => some .mem | .NotIn => some .nmem
  | _ => none
def bltOf (x : Str) : Option Blt :=
  if x = "len" then some .len else if x = "abs" then some .abs else if x = "min" then some .min else if x = "max" then some .max else if x = "int" then some .toInt
  else if x = "tuple" then some .tuple else if x = "list" then some .list else if x = "all" then some .all else if x = "any" then some .any else if x = "sum" then some .sum
  else if x = "gcd" then some .gcd else if x = "lcm" then some .lcm else if x = "isqrt" then some .isqrt else none
def tyOf (nm : Nm) (x : Str) : Option Ty :=
  if x = "int" then some .int else if x = "bool" then some .bool else if x = "str" then some .str else if x = "tuple" then some .tuple else if x = "list" then some .list else if x = "dict" then some .dict
  else match ixOf x nm.cls with | some c => some (.cls c) | none => none
def mthOf (x : Str) : Option Mth := if x = "append" then some .append else if x = "pop" then some .pop else if x = "extend" then some .extend else none

/-- a block: the slots' names, the scope that runs, which lists within lists stay live -/
structure Bk where
  N : List Str
  sc : Scope
  fz : Bool
  /-- its def's table of code objects is at hand -/
  tb : Bool := false
  /-- .. for lambdas -/
  lb : Bool := false
/-- the own names of a comprehension's scope, with their slots -/
def ownOf (N : List Str) (sc : Scope) : List (Str × Nat) := sc.names.filterMap fun p => match p.2 with
  | .local => (match ixOf p.1 N with | some i => some (p.1, i) | none => none)
  | .cell => (match ixOf p.1 N with | some i => some (p.1, i) | none => none)
  | _ => none

/-- a target of names alone, in a comprehension: each its own -/
def erTgC (N : List Str) (sc scope : Scope) (own : List (Str × Nat)) : Nat → Expr → Option Tg
  | 0, _ => none
  | n + 1, e => match e with
    | .Name x _ => (match own.lookup x with
      | some i => if N[i]? = some x ∧ ((relS scope sc).names.lookup x = some .local ∨ ((relS scope sc).names.lookup x = some .cell ∧ scope.names.lookup x = some .cell)) ∧ i ∈ own.map (·.2) then some (.nm true i) else none
      | none => none)
    | .Tuple es _ _ => (match go n es with | some ts => some (.tp ts) | none => none)
    | _ => none
where
  go : Nat → List Expr → Option Tgs
    | 0, _ => none
    | _ + 1, [] => some .nil
    | n + 1, e :: r => if notStar e = true then (match erTgC N sc scope own n e, go n r with
      | some t, some ts => some (.cons t ts)
      | _, _ => none) else none

def erBool (f : Expr → Ex) (op : BoolOp) : List Expr → Ex
  | [] => .bad
  | e :: r => if notIf e = true then (match r with
    | [] => f e
    | r => match op with
      | .And => .and (f e) (erBool f op r)
      | .Or => .or (f e) (erBool f op r)) else .bad
/-- the kind of an iterator, with what it is made of -/
def itK (sc : Scope) (tg e : Expr) : Ik × List Expr := match e with
  | .Call (.Name x p) [a] [] q =>
    if isGl sc x = true ∧ x = "range" ∧ notStar a = true then (.rng, [a])
    else if isGl sc x = true ∧ x = "enumerate" ∧ notStar a = true ∧ isTuple tg = true then (.enm, [a])
    else (.seq, [.Call (.Name x p) [a] [] q])
  | .Call (.Name x p) [a, b] [] q =>
    if isGl sc x = true ∧ x = "range" ∧ notStar a = true ∧ notStar b = true then (.rng, [a, b])
    else if isGl sc x = true ∧ x = "zip" ∧ notStar a = true ∧ notStar b = true ∧ isTuple tg = true then (.zip, [a, b])
    else (.seq, [.Call (.Name x p) [a, b] [] q])
  | .Call (.Name x p) [a, b, c] [] q =>
    if isGl sc x = true ∧ x = "range" ∧ notStar a = true ∧ notStar b = true ∧ notStar c = true then (.rng, [a, b, c])
    else (.seq, [.Call (.Name x p) [a, b, c] [] q])
  | e => (.seq, [e])
def erIt (f : Expr → Ex) (sc : Scope) (tg e : Expr) : Ik × Exs := ((itK sc tg e).1, erA f (itK sc tg e).2)

def erName (nm : Nm) (B : Bk) (x : Str) : Ex := if nmOk x = true then (match isVis B.sc x with
    | true => (match ixOf x B.N with | some i => .var i | none => .bad)
    | false => match isGl B.sc x with
      | true => (match ixOf x nm.cons with
        | some i => .glo i
        | none => match ixOf (x, none) nm.fns with | some i => .fn i | none => .bad)
      | false => .bad) else .bad
def erConst : Const → Ex
  | .none => .non
  | .bool b => .bl b
  | .int i => .int i
  | .str s => .str s
  | _ => .bad
def erCompare (f : Expr → Ex) (a : Expr) (ops : List CmpOp) (es : List Expr) : Ex := match ops, es with
  | [op], [b] => if notSet b = true then (match op, b with
    | .Is, .Constant .none _ _ => .cmp .isN (f a) .non
    | .IsNot, .Constant .none _ _ => .cmp .notN (f a) .non
    | op, b => match erCmp op with | some o => .cmp o (f a) (f b) | none => .bad) else .bad
  | [op, op'], [b, c] => if notSet c = true then (match erCmp op, erCmp op' with | some o, some o' => .chn o o' (f a) (f b) (f c) | _, _ => .bad) else .bad
  | _, _ => .bad
def erBnd (f : Expr → Ex) : Option Expr → Ex
  | some x => .intq (f x)
  | none => .non
/-- xs[::-1] -/
def erRev (kp : Bool) (x : Ex) : Option Expr → Option Expr → Expr → Ex
  | none, none, .UnaryOp .USub (.Constant (.int 1) _ _) _ => .rev kp x
  | _, _, _ => .bad
def gscB (scope : Scope) (x : Str) : Bool := (match scope.kind with | .function => true | _ => false) && !scope.isCoroutine && (scope.names.all fun y => match y.2 with | .cell => false | .free => false | _ => true) &&
  decide (scope.names.lookup (".0" : Str) = some NameKind.local) && decide (scope.names.lookup x = some .local) && !(x == ("__debug__" : Str))
def isGen : Expr → Bool
  | .GeneratorExp .. => true
  | _ => false
def plainIt : Expr → Bool
  | .Set _ _ _ => false
  | .List _ _ => false
  | _ => true
/-- next((x for x in e if x != k), d) -/
def erNext (f : Expr → Ex) (B : Bk) (args : List Expr) : Ex := match args with
  | [.GeneratorExp (.Name x _) [⟨.Name y _, iter, [.Compare (.Name z _) [.NotEq] [.Constant (.int k) _ _] _], 0⟩] scope _, .Constant (.int d) _ _] =>
    if B.tb = true ∧ y = x ∧ z = x ∧ gscB scope x = true ∧ plainIt iter = true then .nx0 k d (f iter) else .bad
  | _ => .bad
def erGlob (nm : Nm) (f : Bk → Bool → Expr → Ex) (B : Bk) (kp : Bool) (x : Str) (args : List Expr) : Ex := match ixOf (x, none) nm.fns with
  | some g => .call g (erA (f B false) args)
  | none => match ixOf x nm.cls with
    | some c => (match args with | [] => .bad | args => .mk c (erA (f B false) args))
    | none => match bltOf x with
      | some b => if x ∈ nm.blts then (match args with | [] => .bad | args => .blt b kp (erA (f B false) args)) else .bad
      | none => if x = "isinstance" ∧ x ∈ nm.blts then (match args with
          | [a, .Name t _] => if isGl B.sc t = true ∧ nmOk t = true then (match tyOf nm t with | some T => .isi T (f B false a) | none => .bad) else .bad
          | _ => .bad)
        else if x = "next" ∧ x ∈ nm.blts then erNext (f B false) B args
        else if x = "repr" ∧ x ∈ nm.blts then (match args with | [a] => .rep (f B false a) | _ => .bad)
        else .bad
def noPar : Arguments → Bool
  | ⟨[], [], none, [], [], none, []⟩ => true
  | _ => false
/-- x(lambda: body), x a taker -/
def lamSc (sc scope : Scope) : Bool := decide (scope.kind = .function) && !scope.isCoroutine && !scope.isGenerator && scope.names.all fun y => !decide (y.2 = .local) && !decide (y.2 = .cell) && (!decide (y.2 = .free) || decide (sc.names.lookup y.1 = some .cell) || decide (sc.names.lookup y.1 = some .free))
def lamBk (B : Bk) (scope : Scope) : Bk := ⟨B.N, scope, B.fz, false, false⟩
def erLam (nm : Nm) (f : Bk → Bool → Expr → Ex) (B : Bk) (x : Str) (pr : Arguments) (body : Expr) (scope : Scope) : Ex :=
  if B.lb = true ∧ x ∈ nm.takers ∧ noPar pr = true ∧ lamSc B.sc scope = true then (match ixOf (x, none) nm.fns with
    | some g => .lam g (f (lamBk B scope) false body)
    | none => .bad) else .bad
def erCall (nm : Nm) (f : Bk → Bool → Expr → Ex) (B : Bk) (kp : Bool) (g : Expr) (args : List Expr) (q : Pos) : Ex := if noStar args = true then (match g with
    | .Name x _ => if nmOk x = true then (match isVis B.sc x with
      | true => (match ixOf x B.N with
        | some i => (match args with
          | [] => .bad
          | args => .callV i (erA (f B false) args))
        | none => .bad)
      | false => match isGl B.sc x with
        | false => .bad
        | true => match args with
          | [.Lambda pr body scope _] => erLam nm f B x pr body scope
          | [.Call (.Name y p2) [a] [] q2] => if x = "len" ∧ y = "set" ∧ isGl B.sc "set" = true ∧ notStar a = true then .lset (f B false a) else erGlob nm f B kp x [.Call (.Name y p2) [a] [] q2]
          | args => erGlob nm f B kp x args) else .bad
    | .Attribute o m ap => if baseOk o = true ∧ (ap.endLine == q.line) = true ∧ args.length < 30 then (match mthOf m with
        | some k => .mth k (f B false o) (erA (f B false) args)
        | none => .bad) else .bad
    | _ => .bad) else .bad
def erLc (f : Bk → Bool → Expr → Ex) (B : Bk) (kp : Bool) (elt : Expr) (tg iter : Expr) (ifs : List Expr) (scope : Scope) : Ex :=
  if blkC B.N B.sc scope (ownOf B.N scope) = true ∧ notSet iter = true ∧ ifs.all notIf = true ∧ noStar ifs = true then
    (match erTgC B.N B.sc scope (ownOf B.N scope) 9 tg with
      | some t => .cmp1 kp (f ⟨B.N, relS scope B.sc, B.fz, B.tb, false⟩ (!B.fz) elt) t (erIt (f B false) B.sc tg iter).1 (erIt (f B false) B.sc tg iter).2 (erA (f ⟨B.N, relS scope B.sc, B.fz, B.tb, false⟩ false) ifs) ((ownOf B.N scope).map (·.2))
      | none => .bad)
  else .bad
/-- one step; f serves what stands within -/
def er1 (nm : Nm) (f : Bk → Bool → Expr → Ex) (B : Bk) (kp : Bool) (e : Expr) : Ex := match e with
  | .Name x _ => erName nm B x
  | .Constant c _ _ => erConst c
  | .BinOp a op b _ => (match erOp op with | some o => .bin kp o (f B false a) (f B false b) | none => .bad)
  | .UnaryOp op a _ => (match op with | .USub => .neg (f B false a) | .Not => if notIf a = true then .nt (f B false a) else .bad | _ => .bad)
  | .BoolOp op es _ => erBool (f B false) op es
  | .Compare a ops es _ => erCompare (f B false) a ops es
  | .IfExp c a b _ => if notIf c = true then .ite (f B false c) (f B kp a) (f B kp b) else .bad
  | .Tuple es _ _ => .tup (erA (f B (!B.fz)) es)
  | .List es _ => .lst kp (erA (f B (!B.fz)) es)
  | .Dict ks vs _ => (match ks, vs with | [], [] => .edic | _, _ => .bad)
  | .Subscript a i _ => (match i with
    | .Slice lo hi st _ => (match st with
      | none => .sl kp (f B false a) (erBnd (f B false) lo) (erBnd (f B false) hi)
      | some s => erRev kp (f B false a) lo hi s)
    | i => .idx (f B false a) (f B false i))
  | .Attribute o a _ => if baseOk o = true then (match ixOf a nm.atts with | some i => .att (f B false o) i | none => .bad) else .bad
  | .Call g args kws q => (match kws with
    | [] => erCall nm f B kp g args q
    | _ => .bad)
  | .ListComp elt gs scope _ => (match gs with
    | [⟨tg, iter, ifs, 0⟩] => erLc f B kp elt tg iter ifs scope
    | _ => .bad)
  | _ => .bad
def er (nm : Nm) : Nat → Bk → Bool → Expr → Ex
  | 0, _, _, _ => .bad
  | n + 1, B, kp, e => er1 nm (er nm n) B kp e
end Mn
end

section
set_option Elab.async false
set_option linter.all false
set_option maxRecDepth 100000
set_option maxHeartbeats 4000000
/-! M3b: expressions mean what their erasure means. -/
namespace Mn
open PySem PySem.Spec PyProof.Rows L2

/-- a law: its program's parts -/
structure Lw where
  P : Program
  w : World
  base : Heap
  mg : Str → Option Value
  F : Fx
  nm : Nm
  pg : Pg
structure Lw.Fns (L : Lw) (d : Nat) : Prop where
  fn : ∀ i, i < L.F.nf → FnR L.P L.w L.F.K L.mg L.base (L2.CX L.P L.w) (4 * d) (L.F.fa i) (spF L.F (callAt L.pg d i))
  tak : ∀ x i, x ∈ L.nm.takers → ixOf (x, none) L.nm.fns = some i → ∃ a Ng cdv bg sg, TakeT L.F.K x a Ng (L.F.fa i) cdv bg sg ∧ ∀ X : Cx, X.prog = L.P → X.w = L.w → X.K = L.F.K → X.mg = L.mg → X.base = L.base → ∀ q,
    GivesM (4 * d + 2) X Ng x sg (L.F.fa i) cdv bg a q (TTm L.F (callLAt L.pg d i))
structure LwOk (L : Lw) : Prop where
  con : ∀ x i, ixOf x L.nm.cons = some i → ∃ c u v, L.pg.cons[i]? = some c ∧ L.mg x = some u ∧ RelV v u ∧ ConOk L.F c v
  fns : ∀ x i, ixOf (x, none) L.nm.fns = some i → i < L.F.nf ∧ L.mg x = some (.ref (L.F.fa i))
  keep : ∀ i, i < L.F.nf → PySem.W.keepIn L.F.K (.ref (L.F.fa i)) = true
  cls : ∀ x i, ixOf x L.nm.cls = some i → ∃ kc, L.pg.cls[i]? = some kc ∧ L.mg x = some (.ref (L.F.ca i)) ∧ kc.init < L.F.nf ∧ Mk L.F.K (L.F.ca i) (L.F.fa kc.init)
  kit : ∀ T, (∀ c, T = .cls c → c < L.pg.cls.length) → KitOk L.F L.pg T
  blt : ∀ x b, bltOf x = some b → x ∈ L.nm.blts → (L.mg x = some b.fv ∧ ∃ id, b.fv = .builtin id) ∨ (L.mg x = none ∧ bootBuiltins x = some b.fv ∧ x ≠ "__name__")
  bi : ∀ x, x ∈ (["range", "enumerate", "zip", "isinstance", "next", "int", "bool", "str", "tuple", "list", "dict", "len", "set", "repr", "super"] : List Str) → L.mg x = none
  att : ∀ a i, ixOf a L.nm.atts = some i → AttOk L.F L.pg a i
  mul : ∀ (c : Nat) (k : Cls) (g : Nat), L.pg.cls[c]? = some k → k.mul = some g → g < L.F.nf ∧ MulOk L.F.K (L.F.ca c) (L.F.fa g)
  excN : ∀ x c b, excIx L.nm.excs x = some (c, b) → c < L.F.ne ∧ L.mg x = some (.ref (L.F.ea c))
  exm : ∀ c c', c < L.F.ne → c' < L.F.ne → PySem.W.exmOne L.F.K (.ref (L.F.ea c)) (.ref (L.F.ea c')) = some (L.pg.exm c c')
  exc : ∀ x c, excIx L.nm.excs x = some (c, false) → PySem.W.excIn L.F.K (L.F.ea c) He.veBase "ValueError.__new__" = true ∧ L.mg x = some (.ref (L.F.ea c)) ∧ PySem.W.keepIn L.F.K (.ref (L.F.ea c)) = true ∧
    PySem.W.subIn L.F.K (.ref (L.F.ea c)) (.type "BaseException") = some true ∧ PySem.W.typeIn L.F.K (.ref (L.F.ea c)) = some (.type "type")
  uni : ∀ P q, (P, none) ∈ L.F.T → (P, some q) ∉ L.F.T
  excF : ∀ x c, excIx L.nm.excs x = some (c, true) → ∃ k, XiOk L.P L.F.K (L.F.ea c) (L.F.xf c) (bsN k).2.1 (bsN k).2.2.1 (bsN k).2.2.2 (bsN k).1 ∧ XfC L.F.K (L.F.ea c) ∧ PySem.W.findIn L.F.K (.ref (L.F.ea c)) (L.F.xf c) = some none
  xfH : ∀ x i c, excIx L.nm.excs x = some (i, true) → c < L.F.ne → L.pg.exm c i = true → FdOk L.F c (L.nm.xfl.getD i ("", 0)).1

structure Fit (L : Lw) (C : Ctx) (d : Nat) (B : Bk) (X : Cx) : Prop where
  p : X.prog = L.P
  w : X.w = L.w
  K : X.K = L.F.K
  mg : X.mg = L.mg
  base : X.base = L.base
  pg : C.pg = L.pg
  call : C.call = callAt L.pg d
  fz : C.fz = B.fz
  N : X.N = B.N
  sc : X.env.scope = B.sc
  nd : X.N.Nodup
  calm : X.calm = true
  callL : C.callL = callLAt L.pg d
  room : Room (4 * d + 1) X.A
  tb : B.tb = true → ∃ c P, X.env.code = .ref c ∧ GxR.TabB X.base X.mg c P ∧ (P, none) ∈ L.F.T
  lb : B.lb = true → ∃ c P, X.env.code = .ref c ∧ LamX.TabB X.base X.mg c P ∧ (P, some (X.env.qual ++ "<lambda>")) ∈ L.F.T ∧ (∀ p ∈ L.F.T, p.1 = P → p.2 = some (X.env.qual ++ "<lambda>")) ∧ Room (4 * d + 3) X.A

def Snd (L : Lw) (f : Bk → Bool → Expr → Ex) : Prop := ∀ (C : Ctx) (d : Nat) (B : Bk) (X : Cx) (W : WX), Fit L C d B X → L.Fns d → Takes X W → ∀ (kp : Bool) (e : Expr),
  PE X e (TEv L.F (WE W) (ev C (f B kp e))) ∧ (notIf e = true → PT X e (TTv L.F (WE W) (ev C (f B kp e))))

section
variable {L : Lw} {C : Ctx} {d : Nat} {B : Bk} {X : Cx} {W : WX} {E : L2.St → XK} {e : Expr} {es : List Expr} {pos : Pos}
theorem Pst.bad {α : Type} {F : Fx} {w : Wd} {O : Store} {H : Hp} {R : α → Wd → Store → Hp → Prop} {E : XK} (z : Pst F w O H (.bad : Res α) R E) : False := z
theorem ge_bad {F : Fx} : PE X e (TEv F E (ev C .bad)) := ⟨fun pins s σ H Q I ⟨w, ρ, O, _, _, z⟩ => by
  have z' : Pst F w O H (.bad : Res Val) (RE F Q) (E σ) := z
  exact z'.bad.elim⟩
theorem gt_bad {F : Fx} : PT X e (TTv F E (ev C .bad)) := ⟨fun pins s σ H Q I ⟨w, ρ, O, _, _, z⟩ => by
  have z' : Pst F w O H (.bad : Res Val) (RB Q) (E σ) := z
  exact z'.bad.elim⟩
abbrev L2Env := PySem.Env
abbrev Both (L : Lw) (X : Cx) (W : WX) (C : Ctx) (e : Expr) (x : Ex) : Prop := PE X e (TEv L.F (WE W) (ev C x)) ∧ (notIf e = true → PT X e (TTv L.F (WE W) (ev C x)))
theorem both_bad : Both L X W C e .bad := ⟨ge_bad, fun _ => gt_bad⟩
/-- an expression whose test is its value's -/
theorem both_plain {x : Ex} (h : PE X e (TEv L.F (WE W) (ev C x))) (he : ∀ whole, isTrue e X.env whole = (do let v ← whole; standAt e.pos; holding [v] (truthy v))) : Both L X W C e x := ⟨h, fun _ => pt_plain h he⟩

/-! ### names -/
theorem ixOf_get {α : Type} [DecidableEq α] {x : α} : ∀ {l : List α} {i : Nat}, ixOf x l = some i → l[i]? = some x
  | [], i, h => by simp [ixOf] at h
  | y :: r, i, h => by
    unfold ixOf at h
    split at h
    · rename_i hd
      have hd := of_decide_eq_true hd
      injection h with h
      subst h
      simp [hd]
    · split at h
      · rename_i j hj
        injection h with h
        subst h
        simpa using ixOf_get hj
      · cases h
theorem nmOk_1 {x : Str} (h : nmOk x = true) : (x == ("__debug__" : Str)) = false ∧ (x == ("__classdict__" : Str)) = false := by
  unfold nmOk at h
  simpa [Bool.and_eq_true] using h
theorem isVis_vis {sc : Scope} {x : Str} (h : isVis sc x = true) : Vis sc x := by
  unfold isVis lookK at h
  unfold Vis
  split at h <;> simp_all
theorem isGl_gl (ft : Fit L C d B X) {x : Str} (h : isGl B.sc x = true) : Gl X x := by
  unfold isGl lookK at h
  show X.env.scope.names.lookup x = _
  rw [ft.sc]
  split at h <;> simp_all
theorem s_name (ok : LwOk L) (ft : Fit L C d B X) {x : Str} {p : Pos} : Both L X W C (.Name x p) (erName L.nm B x) := by
  unfold erName
  split
  · rename_i hn
    obtain ⟨h1, h2⟩ := nmOk_1 hn
    split
    · rename_i hv
      split
      · rename_i i hi
        refine both_plain (ge_var (by rw [ft.N]; exact ixOf_get hi) (by rw [ft.sc]; exact isVis_vis hv) h1 h2) fun _ => rfl
      · exact both_bad
    · split
      · rename_i hg
        split
        · rename_i i hi
          obtain ⟨c, u, v, q1, q2, q3, q4⟩ := ok.con _ _ hi
          have h : ev C (.glo i) = fun _ O => .ok c O := by
            funext ρ O
            show ofO C.pg.cons[i]? O = _
            rw [ft.pg, q1]; rfl
          refine both_plain ?_ fun _ => rfl
          rw [h]
          exact ge_con (isGl_gl ft hg) (by rw [ft.mg]; exact q2) q3 q4 h1
        · split
          · rename_i i hi
            obtain ⟨q1, q2⟩ := ok.fns _ _ hi
            exact both_plain (ge_con (isGl_gl ft hg) (by rw [ft.mg]; exact q2) (v := .ref (L.F.fa i)) rfl (fun w n H => ⟨q1, rfl⟩) h1) fun _ => rfl
          · exact both_bad
      · exact both_bad
  · exact both_bad
theorem s_const {c : Const} {k : Nat} : Both L X W C (.Constant c k pos) (erConst c) := by
  unfold erConst
  split
  · exact both_plain (ge_c pe_non fun _ _ _ => rfl) fun _ => rfl
  · exact both_plain (ge_c pe_bl fun _ _ _ => rfl) fun _ => rfl
  · exact both_plain (ge_c pe_int fun _ _ _ => rfl) fun _ => rfl
  · exact both_plain (ge_c pe_str fun _ _ _ => rfl) fun _ => rfl
  · exact both_bad

/-! ### lists of expressions -/
theorem starEach_not {a : Expr} {es : List Expr} {env : L2Env} (h : notStar a = true) : starEach (a :: es) env = (false, eval a env) :: starEach es env := by
  cases a <;> first | rfl | cases h
theorem noStar_cons {a : Expr} {es : List Expr} (h : noStar (a :: es) = true) : notStar a = true ∧ noStar es = true := by
  unfold noStar at h
  rw [List.all_cons, Bool.and_eq_true] at h
  exact h
theorem noStar_plain {p : Pos} {env : L2Env} : ∀ {es : List Expr}, noStar es = true → (backTo p (starEach es env)).any (·.1) = false
  | [], _ => rfl
  | a :: es, h => by
    obtain ⟨h1, h2⟩ := noStar_cons h
    rw [starEach_not h1]
    show (false || (backTo p (starEach es env)).any (·.1)) = false
    rw [noStar_plain h2]; rfl
theorem erA_not {f : Expr → Ex} {a : Expr} {es : List Expr} (h : notStar a = true) : erA f (a :: es) = .cons (f a) (erA f es) := by
  cases a <;> first | rfl | cases h
theorem s_args {f : Expr → Ex} (hf : ∀ e, PE X e (TEv L.F (WE W) (ev C (f e)))) : ∀ {es : List Expr}, noStar es = true → PA X es (TAv L.F (WE W) (evs' C (erA f es)))
  | [], _ => ga_nil
  | a :: es, h => by
    obtain ⟨h1, h2⟩ := noStar_cons h
    rw [erA_not h1]
    exact ga_cons (hf a) (s_args hf h2) (starEach_not h1)
theorem s_items (hK : X.K = L.F.K) {f : Expr → Ex} (hf : ∀ e, PE X e (TEv L.F (WE W) (ev C (f e)))) : ∀ {es : List Expr}, PA X es (TAv L.F (WE W) (evs C (erA f es)))
  | [] => ga_nil
  | a :: es => by
    cases hs : notStar a with
    | true =>
      rw [erA_not hs]
      exact ga_consE (hf a) (s_items hK hf) (starEach_not hs)
    | false =>
      cases a with
      | Starred b p => exact ga_star hK (hf b) (s_items hK hf) rfl
      | _ => cases hs
theorem evs'_len : ∀ {es : List Expr} {f : Expr → Ex} (_ : noStar es = true) {ρ : Env} {O O' : Store} {vs : List Val}, evs' C (erA f es) ρ O = .ok vs O' → vs.length = es.length
  | [], f, _, ρ, O, O', vs, h => by
    injection (show Res.ok ([] : List Val) O = .ok vs O' from h) with h _
    rw [← h]; rfl
  | a :: es, f, hs, ρ, O, O', vs, h => by
    obtain ⟨h1, h2⟩ := noStar_cons hs
    rw [erA_not h1] at h
    have h : ((ev C (f a) ρ O).bind fun x O1 => (evs' C (erA f es) ρ O1).bind fun xs O2 => .ok (x :: xs) O2) = .ok vs O' := h
    cases e1 : ev C (f a) ρ O with
    | ok x O1 =>
      rw [e1] at h
      have h : ((evs' C (erA f es) ρ O1).bind fun xs O2 => Res.ok (x :: xs) O2) = .ok vs O' := h
      cases e2 : evs' C (erA f es) ρ O1 with
      | ok xs O2 =>
        rw [e2] at h
        injection (show Res.ok (x :: xs) O2 = .ok vs O' from h) with h _
        rw [← h, List.length_cons, List.length_cons, evs'_len h2 e2]
      | exc c p O2 => rw [e2] at h; cases (show (Res.exc c p O2 : Res (List Val)) = .ok vs O' from h)
      | bad => rw [e2] at h; cases (show (Res.bad : Res (List Val)) = .ok vs O' from h)
    | exc c p O2 => rw [e1] at h; cases (show (Res.exc c p O2 : Res (List Val)) = .ok vs O' from h)
    | bad => rw [e1] at h; cases (show (Res.bad : Res (List Val)) = .ok vs O' from h)

/-! ### operators -/
theorem erOp_op {o : Operator} {b : Bop} (h : erOp o = some b) : b.op = o := by
  cases o <;> simp only [erOp] at h <;> first | cases h; rfl | cases h
theorem erCmp_op {o : CmpOp} {b : Cop} (h : erCmp o = some b) : b.op = o := by
  cases o <;> simp only [erCmp] at h <;> first | cases h; rfl | cases h
variable {f : Bk → Bool → Expr → Ex}
theorem fit_fn (ft : Fit L C d B X) (fn : L.Fns d) {j : Nat} (hj : j < L.F.nf) : FnS X L.F (4 * d) (L.F.fa j) (callAt L.pg d j) := by
  unfold FnS
  rw [ft.p, ft.w, ft.K, ft.mg, ft.base]
  exact fn.fn j hj
theorem ev_bin (ft : Fit L C d B X) {kp : Bool} {o : Bop} {a b : Ex} (ho : o ≠ .mul) :
    ev C (.bin kp o a b) = fun ρ O => (ev C a ρ O).bind fun x O1 => (ev C b ρ O1).bind fun y O2 => ofO2 (binV kp o x y O2) := by
  funext ρ O
  show (ev C a ρ O).bind _ = _
  congr 1
  funext x O1
  congr 1
  funext y O2
  cases o <;> first | rfl | exact absurd rfl ho
theorem ev_mul (ft : Fit L C d B X) {kp : Bool} {a b : Ex} :
    ev C (.bin kp .mul a b) = fun ρ O => (ev C a ρ O).bind fun x O1 => (ev C b ρ O1).bind fun y O2 => mulR L.pg (callAt L.pg d) kp x y O2 := by
  rw [← ft.call, ← ft.pg]
  rfl
theorem s_bin (ok : LwOk L) (ft : Fit L C d B X) (fn : L.Fns d) (A : ∀ kp e, Both L X W C e (f B kp e)) {kp : Bool} {a b : Expr} {op : Operator} :
    Both L X W C (.BinOp a op b pos) (match erOp op with | some o => .bin kp o (f B false a) (f B false b) | none => .bad) := by
  split
  · rename_i o ho
    rw [← erOp_op ho]
    refine both_plain ?_ fun _ => rfl
    by_cases hm : o = .mul
    · subst hm
      rw [ev_mul ft]
      exact ge_mul (P := L.pg) (cl := callAt L.pg d) ft.K (fun j hj => fit_fn ft fn hj) (ft.room.mono (by omega)) ok.mul (A false a).1 (A false b).1
    · rw [ev_bin ft hm]
      exact ge_bin ft.K (A false a).1 (A false b).1
  · exact both_bad
abbrev All1 (L : Lw) (X : Cx) (W : WX) (C : Ctx) (B : Bk) (f : Bk → Bool → Expr → Ex) : Prop := ∀ kp e, Both L X W C e (f B kp e)
theorem s_neg (A : All1 L X W C B f) {a : Expr} : Both L X W C (.UnaryOp .USub a pos) (.neg (f B false a)) := both_plain (ge_neg (A false a).1) fun _ => rfl
theorem s_not (A : All1 L X W C B f) {a : Expr} (h : notIf a = true) : Both L X W C (.UnaryOp .Not a pos) (.nt (f B false a)) := ⟨ge_not (A false a).1, fun _ => gt_not ((A false a).2 h)⟩
theorem pe_boolOp1 {op : BoolOp} {a : Expr} {t : TE} (h : PE X a t) : PE X (.BoolOp op [a] pos) t := ⟨fun pins s σ H Q I z => BoolOp_one (h.run pins s σ H Q I z)⟩
theorem s_bool (A : All1 L X W C B f) : ∀ {op : BoolOp} {es : List Expr}, PE X (.BoolOp op es pos) (TEv L.F (WE W) (ev C (erBool (f B false) op es))) ∧ PW X (.BoolOp op es pos) (TTv L.F (WE W) (ev C (erBool (f B false) op es)))
  | op, [] => ⟨ge_bad, ⟨fun whole pins s σ H Q I ⟨w, ρ, O, _, _, z⟩ => by
      have z' : Pst L.F w O H (.bad : Res Val) (RB Q) (WE W σ) := z
      exact z'.bad.elim⟩⟩
  | op, a :: r => by
    unfold erBool
    split
    · rename_i h
      cases r with
      | nil => exact ⟨pe_boolOp1 (A false a).1, by
          cases op
          · exact pw_and1 ((A false a).2 h)
          · exact pw_or1 ((A false a).2 h)⟩
      | cons b r =>
        cases op
        · exact ⟨ge_and (A false a).1 (s_bool A (op := .And)).1, gw_and ((A false a).2 h) (s_bool A (op := .And)).2⟩
        · exact ⟨ge_or (A false a).1 (s_bool A (op := .Or)).1, gw_or ((A false a).2 h) (s_bool A (op := .Or)).2⟩
    · exact ⟨ge_bad, ⟨fun whole pins s σ H Q I ⟨w, ρ, O, _, _, z⟩ => by
        have z' : Pst L.F w O H (.bad : Res Val) (RB Q) (WE W σ) := z
        exact z'.bad.elim⟩⟩
theorem behind_set {op : CmpOp} {b : Expr} (h : notSet b = true) : behindInMarks op b = false := by
  cases b <;> first | rfl | cases h
theorem lt_c {d : Nat} {A : Around} (h : Room (4 * d + 1) A) : A.units + 65 < cLine := by have := h.un; omega
theorem s_compare (ft : Fit L C d B X) (A : All1 L X W C B f) {a : Expr} {ops : List CmpOp} {es : List Expr} : Both L X W C (.Compare a ops es pos) (erCompare (f B false) a ops es) := by
  unfold erCompare
  split
  · rename_i op b
    split
    · rename_i hb
      split
      · rename_i k q
        exact ⟨ge_cmp ft.K (lt_c ft.room) (op := .isN) (A false a).1 (ge_c pe_non fun _ _ _ => rfl) rfl, fun _ => gt_cmp ft.K (lt_c ft.room) (op := .isN) (A false a).1 (ge_c pe_non fun _ _ _ => rfl) rfl⟩
      · rename_i k q
        exact ⟨ge_cmp ft.K (lt_c ft.room) (op := .notN) (A false a).1 (ge_c pe_non fun _ _ _ => rfl) rfl, fun _ => gt_cmp ft.K (lt_c ft.room) (op := .notN) (A false a).1 (ge_c pe_non fun _ _ _ => rfl) rfl⟩
      · split
        · rename_i o ho
          rw [← erCmp_op ho]
          exact ⟨ge_cmp ft.K (lt_c ft.room) (A false a).1 (A false b).1 (behind_set hb), fun _ => gt_cmp ft.K (lt_c ft.room) (A false a).1 (A false b).1 (behind_set hb)⟩
        · exact both_bad
    · exact both_bad
  · rename_i op op' b c
    split
    · rename_i hc
      split
      · rename_i o o' ho ho'
        rw [← erCmp_op ho, ← erCmp_op ho']
        exact ⟨ge_chn ft.K (lt_c ft.room) (A false a).1 (A false b).1 (A false c).1 (behind_set hc), fun _ => gt_chn ft.K (lt_c ft.room) (A false a).1 (A false b).1 (A false c).1 (behind_set hc)⟩
      · exact both_bad
    · exact both_bad
  · exact both_bad
theorem s_ite (A : All1 L X W C B f) {kp : Bool} {c a b : Expr} : Both L X W C (.IfExp c a b pos) (if notIf c = true then .ite (f B false c) (f B kp a) (f B kp b) else .bad) := by
  split
  · rename_i h
    exact ⟨ge_ite ((A false c).2 h) (A kp a).1 (A kp b).1, fun h => nomatch h⟩
  · exact both_bad
theorem s_tup (ft : Fit L C d B X) (A : All1 L X W C B f) {k : Nat} {z : Bool} : Both L X W C (.Tuple es k pos) (.tup (erA (f B z) es)) := both_plain (ge_tup (s_items ft.K fun e => (A z e).1)) fun _ => rfl
theorem s_lst (ft : Fit L C d B X) (A : All1 L X W C B f) {kp z : Bool} : Both L X W C (.List es pos) (.lst kp (erA (f B z) es)) := both_plain (ge_lst (s_items ft.K fun e => (A z e).1)) fun _ => rfl
theorem s_bnd (A : All1 L X W C B f) : ∀ {o : Option Expr}, PO X o (POv L.F (WE W) (ev C (erBnd (f B false) o)))
  | none => po_v0
  | some a => po_v1 (A false a).1
theorem bnd_ok {f : Expr → Ex} {o : Option Expr} {ρ : Env} {O O' : Store} {v : Val} (h : ev C (erBnd f o) ρ O = .ok v O') : ∃ q, Mn.bound v = some q := by
  cases o with
  | none =>
    injection (show Res.ok Val.non O = .ok v O' from h) with h _
    rw [← h]; exact ⟨_, rfl⟩
  | some a =>
    have h : ((ev C (f a) ρ O).bind fun x O1 => match x with | .int _ => .ok x O1 | _ => .bad) = .ok v O' := h
    cases e1 : ev C (f a) ρ O with
    | ok x O1 =>
      rw [e1] at h
      cases x with
      | int j =>
        injection (show Res.ok (Val.int j) O1 = .ok v O' from h) with h _
        rw [← h]; exact ⟨_, rfl⟩
      | _ => cases (show (Res.bad : Res Val) = .ok v O' from h)
    | exc c p O2 => rw [e1] at h; cases (show (Res.exc c p O2 : Res Val) = .ok v O' from h)
    | bad => rw [e1] at h; cases (show (Res.bad : Res Val) = .ok v O' from h)
theorem plainIx {b : Expr} (h : isSlice b = false) : PlainIx b := fun o i => by
  cases b <;> first | rfl | cases h
theorem s_sub (ft : Fit L C d B X) (A : All1 L X W C B f) {kp : Bool} {a i : Expr} : Both L X W C (.Subscript a i pos) (match i with
    | .Slice lo hi st _ => (match st with
      | none => .sl kp (f B false a) (erBnd (f B false) lo) (erBnd (f B false) hi)
      | some s => erRev kp (f B false a) lo hi s)
    | i => .idx (f B false a) (f B false i)) := by
  cases i with
  | Slice lo hi st p2 =>
    cases st with
    | none => exact both_plain (ge_sl ft.K (fun ρ O v O' h => bnd_ok h) (A false a).1 (s_bnd A) (s_bnd A)) fun _ => rfl
    | some s =>
      dsimp only
      unfold erRev
      split
      · exact both_plain (ge_rev (A false a).1) fun _ => rfl
      · exact both_bad
  | _ => exact both_plain (ge_idx ft.K (A false a).1 (A false _).1 (plainIx rfl)) fun _ => rfl
theorem base_ok {o : Expr} (h : baseOk o = true) {x : Str} {env : L2Env} {whole : Sem Value} : attributeBase o x env whole = whole := by
  unfold attributeBase
  split
  · cases h
  · rfl
theorem s_att (ok : LwOk L) (ft : Fit L C d B X) (fn : L.Fns d) (A : All1 L X W C B f) {o : Expr} {a : Str} : Both L X W C (.Attribute o a pos) (if baseOk o = true then (match ixOf a L.nm.atts with | some i => .att (f B false o) i | none => .bad) else .bad) := by
  split
  · rename_i hb
    split
    · rename_i i hi
      have h : ev C (.att (f B false o) i) = fun ρ O => (ev C (f B false o) ρ O).bind fun v O1 => match attOf L.pg O1 v i with
          | some (.inl u) => .ok u O1
          | some (.inr g) => noX (callAt L.pg d g [v] O1)
          | none => .bad := by
        funext ρ O
        show (ev C _ ρ O).bind _ = _
        rw [ft.pg, ft.call]
        all_goals rfl
      refine both_plain ?_ fun _ => rfl
      rw [h]
      refine ge_att (n := 4 * d) (cl := callAt L.pg d) ft.K (ok.att _ _ hi) (fun j hj => ?_) ft.room (A false o).1 (base_ok hb)
      unfold FnS
      rw [ft.p, ft.w, ft.K, ft.mg, ft.base]
      exact fn.fn j hj
    · exact both_bad
  · exact both_bad

/-! ### calls -/
theorem s_callV (ok : LwOk L) (ft : Fit L C d B X) (fn : L.Fns d) (tk : Takes X W) (A : All1 L X W C B f) {x : Str} {p : Pos} {i : Nat} {a : Expr} {es : List Expr} (hs : noStar (a :: es) = true) (hi : ixOf x B.N = some i) (hv : isVis B.sc x = true) (hn : nmOk x = true) :
    PE X (.Call (.Name x p) (a :: es) [] pos) (TEv L.F (WE W) (ev C (.callV i (erA (f B false) (a :: es))))) := by
  have h : ev C (.callV i (erA (f B false) (a :: es))) = fun ρ O => match ρ[i]? with
      | some (some (.fn j)) => (evs' C (erA (f B false) (a :: es)) ρ O).bind fun vs O1 => callAt L.pg d j vs O1
      | _ => .bad := by
    rw [← ft.call]; rfl
  rw [h]
  exact ge_callV (cl := callAt L.pg d) (fun j hj => ⟨fit_fn ft fn hj, by rw [ft.K]; exact ok.keep j hj⟩) (ft.room.mono (by omega)) (by rw [ft.N]; exact ixOf_get hi) (by rw [ft.sc]; exact isVis_vis hv) tk (s_args (fun e => (A false e).1) hs) (nmOk_1 hn).1 (nmOk_1 hn).2
    (starEach_not (noStar_cons hs).1) (noStar_plain (noStar_cons hs).2)
theorem s_callG (ok : LwOk L) (ft : Fit L C d B X) (fn : L.Fns d) (tk : Takes X W) (A : All1 L X W C B f) {x : Str} {p : Pos} {g : Nat} {es : List Expr} (hs : noStar es = true) (hi : ixOf (x, none) L.nm.fns = some g) (hg : isGl B.sc x = true) (hn : nmOk x = true) :
    PE X (.Call (.Name x p) es [] pos) (TEv L.F (WE W) (ev C (.call g (erA (f B false) es)))) := by
  have h : ev C (.call g (erA (f B false) es)) = fun ρ O => (evs' C (erA (f B false) es) ρ O).bind fun vs O1 => callAt L.pg d g vs O1 := by
    rw [← ft.call]; rfl
  rw [h]
  obtain ⟨q1, q2⟩ := ok.fns _ _ hi
  cases es with
  | nil => exact ge_call0 (fit_fn ft fn q1) (ft.room.mono (by omega)) (isGl_gl ft hg) (by rw [ft.mg]; exact q2) (by rw [ft.K]; exact ok.keep g q1) tk (nmOk_1 hn).1
  | cons a es => exact ge_call (fit_fn ft fn q1) (ft.room.mono (by omega)) (isGl_gl ft hg) (by rw [ft.mg]; exact q2) (by rw [ft.K]; exact ok.keep g q1) tk (s_args (fun e => (A false e).1) hs) (nmOk_1 hn).1 (starEach_not (noStar_cons hs).1) (noStar_plain (noStar_cons hs).2)
theorem s_mk (ok : LwOk L) (ft : Fit L C d B X) (fn : L.Fns d) (tk : Takes X W) (A : All1 L X W C B f) {x : Str} {p : Pos} {c : Nat} {a : Expr} {es : List Expr} (hs : noStar (a :: es) = true) (hi : ixOf x L.nm.cls = some c) (hg : isGl B.sc x = true) (hn : nmOk x = true) :
    PE X (.Call (.Name x p) (a :: es) [] pos) (TEv L.F (WE W) (ev C (.mk c (erA (f B false) (a :: es))))) := by
  obtain ⟨kc, q1, q2, q3, q4⟩ := ok.cls _ _ hi
  have h : ev C (.mk c (erA (f B false) (a :: es))) = fun ρ O => (evs' C (erA (f B false) (a :: es)) ρ O).bind fun vs O1 => match L.pg.cls[c]? with
      | some kc => (callAt L.pg d kc.init (.own O1.length :: vs) (O1 ++ [.ins c (List.replicate kc.n none)])).bind fun v O2 => match v with
        | .non => ofO2 (Mn.made O1.length O2)
        | _ => .bad
      | none => .bad := by
    rw [← ft.call, ← ft.pg]; rfl
  rw [h]
  exact ge_mk (cl := callAt L.pg d) q1 (by rw [ft.K]; exact q4) (fit_fn ft fn q3) ft.room (isGl_gl ft hg) (by rw [ft.mg]; exact q2) tk (s_args (fun e => (A false e).1) hs) (nmOk_1 hn).1 (starEach_not (noStar_cons hs).1) (noStar_plain (noStar_cons hs).2)
theorem s_blt (ok : LwOk L) (ft : Fit L C d B X) (A : All1 L X W C B f) {kp : Bool} {x : Str} {p : Pos} {b : Blt} {a : Expr} {es : List Expr} (hs : noStar (a :: es) = true) (hb : bltOf x = some b) (hx : x ∈ L.nm.blts) (hg : isGl B.sc x = true) (hn : nmOk x = true) :
    PE X (.Call (.Name x p) (a :: es) [] pos) (TEv L.F (WE W) (ev C (.blt b kp (erA (f B false) (a :: es))))) :=
  ge_blt ft.K ft.calm (isGl_gl ft hg) (by rw [ft.mg]; exact ok.blt x b hb hx) (s_args (fun e => (A false e).1) hs) (nmOk_1 hn).1 (starEach_not (noStar_cons hs).1) (noStar_plain (noStar_cons hs).2)
theorem tyOf_pe (ok : LwOk L) (ft : Fit L C d B X) {t : Str} {T : Ty} {p : Pos} (ht : tyOf L.nm t = some T) (hg : isGl B.sc t = true) (hn : nmOk t = true) : PE X (.Name t p) (tC (L.F.tyV T)) ∧ KitOk L.F L.pg T := by
  have bi : ∀ {n : Str} {T : Ty}, n ∈ (["range", "enumerate", "zip", "isinstance", "next", "int", "bool", "str", "tuple", "list", "dict", "len", "set", "repr", "super"] : List Str) → n ≠ "__name__" → t = n → bootBuiltins n = some (L.F.tyv T) → (∀ c, T = .cls c → False) → PE X (.Name t p) (tC (L.F.tyV T)) ∧ KitOk L.F L.pg T := fun {n T} hm hne e hb hc => by
    subst e
    exact ⟨pe_bltn (isGl_gl ft hg) (by rw [ft.mg]; exact ok.bi t hm) hb (relV_ty T) hne (nmOk_1 hn).1, ok.kit T fun c h => (hc c h).elim⟩
  unfold tyOf at ht
  split at ht
  · rename_i e; cases ht; exact bi (by decide) (by decide) e (by kernel_rfl) (fun _ h => nomatch h)
  split at ht
  · rename_i e; cases ht; exact bi (by decide) (by decide) e (by kernel_rfl) (fun _ h => nomatch h)
  split at ht
  · rename_i e; cases ht; exact bi (by decide) (by decide) e (by kernel_rfl) (fun _ h => nomatch h)
  split at ht
  · rename_i e; cases ht; exact bi (by decide) (by decide) e (by kernel_rfl) (fun _ h => nomatch h)
  split at ht
  · rename_i e; cases ht; exact bi (by decide) (by decide) e (by kernel_rfl) (fun _ h => nomatch h)
  split at ht
  · rename_i e; cases ht; exact bi (by decide) (by decide) e (by kernel_rfl) (fun _ h => nomatch h)
  split at ht
  · rename_i c hc
    cases ht
    obtain ⟨kc, q1, q2, _, _⟩ := ok.cls _ _ hc
    exact ⟨pe_glob (isGl_gl ft hg) (by rw [ft.mg]; exact q2) (relV_ty (.cls c)) (nmOk_1 hn).1, ok.kit _ fun c' h => by cases h; exact (List.getElem?_eq_some_iff.mp q1).1⟩
  · cases ht
theorem s_isi (ok : LwOk L) (ft : Fit L C d B X) (A : All1 L X W C B f) {t : Str} {T : Ty} {a : Expr} {p p2 : Pos} (hs : noStar [a, .Name t p2] = true) (ht : tyOf L.nm t = some T) (hgi : isGl B.sc "isinstance" = true) (hg : isGl B.sc t = true) (hn : nmOk t = true) :
    PE X (.Call (.Name "isinstance" p) [a, .Name t p2] [] pos) (TEv L.F (WE W) (ev C (.isi T (f B false a)))) := by
  have h : ev C (.isi T (f B false a)) = fun ρ O => (ev C (f B false a) ρ O).bind fun x O1 => match isTyP L.pg T x with
      | some r => .ok (.bl r) O1
      | none => .bad := by
    rw [← ft.pg]; rfl
  rw [h]
  obtain ⟨q1, q2⟩ := tyOf_pe ok ft (p := p2) ht hg hn
  exact ge_isi ft.K q2 (isGl_gl ft hgi) (by rw [ft.mg]; exact ok.bi _ (by decide)) (by kernel_rfl) (A false a).1 q1 (starEach_not (noStar_cons hs).1) (starEach_not (noStar_cons (noStar_cons hs).2).1) (noStar_plain (noStar_cons hs).2)
theorem mthOf_nm {m : Str} {k : Mth} (h : mthOf m = some k) : k.nm = m := by
  unfold mthOf at h
  split at h
  · rename_i e; cases h; exact e.symm
  split at h
  · rename_i e; cases h; exact e.symm
  split at h
  · rename_i e; cases h; exact e.symm
  · cases h
theorem backToKw_nil {p : Pos} {env : L2Env} : (backToKw p (keywordEach [] env)).all (fun x => x.1.isSome) = true := rfl
theorem few_ok {p : Pos} {env : L2Env} : ∀ {es : List Expr}, noStar es = true → (backTo p (starEach es env)).all (fun x => !x.1) = true
  | [], _ => rfl
  | a :: es, h => by
    obtain ⟨h1, h2⟩ := noStar_cons h
    rw [starEach_not h1]
    show (true && (backTo p (starEach es env)).all (fun x => !x.1)) = true
    rw [few_ok h2]; rfl
theorem s_mth (ft : Fit L C d B X) (A : All1 L X W C B f) {o : Expr} {m : Str} {k : Mth} {ap q : Pos} {es : List Expr} (hs : noStar es = true) (hb : baseOk o = true) (hl : (ap.endLine == q.line) = true) (hlen : es.length < 30) (hk : mthOf m = some k) :
    PE X (.Call (.Attribute o m ap) es [] q) (TEv L.F (WE W) (ev C (.mth k (f B false o) (erA (f B false) es)))) := by
  rw [← mthOf_nm hk]
  cases es with
  | nil => exact ge_mth0 ft.K (fz := C.fz) (A false o).1 (base_ok hb) hl
  | cons a es =>
    refine ge_mth ft.K (fz := C.fz) (A false o).1 (s_args (fun e => (A false e).1) hs) (base_ok hb) ?_ hl (starEach_not (noStar_cons hs).1) (noStar_plain (noStar_cons hs).2)
    rw [few_ok hs, backToKw_nil]
    show decide _ = true
    refine decide_eq_true ?_
    show (a :: es).length + 0 + 0 < 30
    omega
theorem gsc_ok {env : L2Env} {scope : Scope} {x : Str} (h : gscB scope x = true) : GxR.GenS env scope x ∧ (x == ("__debug__" : Str)) = false := by
  unfold gscB at h
  simp only [Bool.and_eq_true, Bool.not_eq_true', List.all_eq_true, decide_eq_true_eq] at h
  obtain ⟨⟨⟨⟨⟨h1, h2⟩, h3⟩, h4⟩, h5⟩, h6⟩ := h
  refine ⟨⟨?_, h2, fun y hy e => ?_, h4, h5, fun y hy e => ?_⟩, h6⟩
  · split at h1
    · assumption
    · cases h1
  · have q := h3 y hy
    rw [e] at q
    cases q
  · have q := h3 y hy
    rw [e] at q
    cases q
theorem genFold_ok {it : Expr} {env : L2Env} (h : plainIt it = true) : ∀ v, genFold it env v = pure v := fun v => by
  unfold genFold
  cases it <;> first | rfl | cases h
theorem s_next (ok : LwOk L) (ft : Fit L C d B X) (A : All1 L X W C B f) {p q : Pos} {args : List Expr} (hg : isGl B.sc "next" = true) : Both L X W C (.Call (.Name "next" p) args [] q) (erNext (f B false) B args) := by
  unfold erNext
  split
  · rename_i x p1 y p2 iter z p3 k p4 p5 p6 scope p7 d0 p8 p9
    split
    · rename_i h
      obtain ⟨h1, rfl, rfl, h4, h5⟩ := h
      obtain ⟨c, P, t1, t2, t3⟩ := ft.tb h1
      obtain ⟨S, hx⟩ := gsc_ok (env := X.env) h4
      exact both_plain (ge_nx0 ft.K ft.room (isGl_gl ft hg) (by rw [ft.mg]; exact ok.bi _ (by decide)) t2 t3 (fun qq => ok.uni P qq t3) t1 S hx (A false iter).1 (genFold_ok h5)) fun _ => rfl
    · exact both_bad
  · exact both_bad
theorem s_lam (ok : LwOk L) (sn : Snd L f) (ft : Fit L C d B X) (fn : L.Fns d) {x : Str} {p lpos : Pos} {pr : Arguments} {body : Expr} {scope : Scope} (hg : isGl B.sc x = true) (hn : nmOk x = true) :
    PE X (.Call (.Name x p) [.Lambda pr body scope lpos] [] pos) (TEv L.F (WE W) (ev C (erLam L.nm f B x pr body scope))) := by
  unfold erLam
  split
  · rename_i h
    obtain ⟨h1, h2, h3, h4⟩ := h
    split
    · rename_i g hx
      obtain ⟨q1, q2⟩ := ok.fns _ _ hx
      obtain ⟨a, Ng, cdv, bg, sg, T, G⟩ := fn.tak x g h2 hx
      obtain ⟨c, P, t1, t2, t3, t4, t5⟩ := ft.lb h1
      have e : ev C (.lam g (f (lamBk B scope) false body)) = fun ρ O => noX (callLAt L.pg d g (fun O1 => ev C (f (lamBk B scope) false body) ρ O1) O) := by
        rw [← ft.callL]; rfl
      rw [e]
      have hp : pr = ⟨[], [], none, [], [], none, []⟩ := by
        unfold noPar at h3
        split at h3
        · rfl
        · cases h3
      subst hp
      have hl : LamX.LamS X.env.scope scope := LamX.lamS_by (by rw [ft.sc]; exact h4)
      refine ge_lam (k := 4 * d + 1) (cl := callLAt L.pg d g) (isGl_gl ft hg) (by rw [ft.mg]; exact q2) (by rw [ft.K]; exact ok.keep g q1) (by rw [ft.K]; exact T) (G X ft.p ft.w ft.K ft.mg ft.base _) t2 t1 t3 t4 t5 hl rfl (fun _ _ _ _ _ => rfl) (fun A outer s H E f0 c' hr => ?_) (nmOk_1 hn).1
      exact (sn C d (lamBk B scope) (LamX.lamCx X A outer s H E scope f0 c') (fun cls dd _ H => E cls dd H) ⟨ft.p, ft.w, ft.K, ft.mg, ft.base, ft.pg, ft.call, ft.fz, ft.N, rfl, ft.nd, rfl, ft.callL, hr, (fun z => nomatch z), (fun z => nomatch z)⟩ fn (takes_of rfl rfl rfl (by rw [show (LamX.lamCx X A outer s H E scope f0 c').prog = X.prog from rfl]; rfl)) false body).1
    · exact ge_bad
  · exact ge_bad
theorem s_glob (ok : LwOk L) (sn : Snd L f) (ft : Fit L C d B X) (fn : L.Fns d) (tk : Takes X W) (A : All1 L X W C B f) {kp : Bool} {x : Str} {p : Pos} {args : List Expr} {q : Pos} (hs : noStar args = true) (hg : isGl B.sc x = true) (hn : nmOk x = true) :
    Both L X W C (.Call (.Name x p) args [] q) (erGlob L.nm f B kp x args) := by
  unfold erGlob
  split
  · rename_i i hi
    exact both_plain (s_callG ok ft fn tk A hs hi hg hn) fun _ => rfl
  · split
    · rename_i c hc
      cases args with
      | nil => exact both_bad
      | cons a es => exact both_plain (s_mk ok ft fn tk A hs hc hg hn) fun _ => rfl
    · split
      · rename_i b hb
        split
        · rename_i hx
          cases args with
          | nil => exact both_bad
          | cons a es => exact both_plain (s_blt ok ft A hs hb hx hg hn) fun _ => rfl
        · exact both_bad
      · split
        · rename_i hx
          obtain ⟨rfl, hx⟩ := hx
          split
          · rename_i a t p2
            split
            · rename_i ht
              split
              · rename_i T hT
                exact both_plain (s_isi ok ft A hs hT hg ht.1 ht.2) fun _ => rfl
              · exact both_bad
            · exact both_bad
          · exact both_bad
        · split
          · rename_i hx
            obtain ⟨rfl, _⟩ := hx
            exact s_next ok ft A hg
          · split
            · rename_i hx
              obtain ⟨rfl, _⟩ := hx
              split
              · rename_i a
                exact both_plain (ge_rep ft.K ft.room (isGl_gl ft hg) (by rw [ft.mg]; exact ok.bi _ (by simp)) (A false a).1 (starEach_not (noStar_cons hs).1)) fun _ => rfl
              · exact both_bad
            · exact both_bad
theorem s_call (ok : LwOk L) (sn : Snd L f) (ft : Fit L C d B X) (fn : L.Fns d) (tk : Takes X W) (A : All1 L X W C B f) {kp : Bool} {g : Expr} {args : List Expr} {q : Pos} : Both L X W C (.Call g args [] q) (erCall L.nm f B kp g args q) := by
  unfold erCall
  split
  · rename_i hs
    split
    · rename_i x p
      split
      · rename_i hn
        split
        · rename_i hv
          split
          · rename_i i hi
            cases args with
            | nil => exact both_bad
            | cons a es => exact both_plain (s_callV ok ft fn tk A hs hi hv hn) fun _ => rfl
          · exact both_bad
        · split
          · exact both_bad
          · rename_i hg
            split
            · exact both_plain (s_lam ok sn ft fn hg hn) fun _ => rfl
            · split
              · rename_i y p2 a q2 hh
                obtain ⟨rfl, rfl, hg2, hs2⟩ := hh
                exact both_plain (ge_lset ft.K ft.room ft.calm (isGl_gl ft hg) (by rw [ft.mg]; exact ok.bi _ (by simp)) (isGl_gl ft hg2) (by rw [ft.mg]; exact ok.bi _ (by simp)) (A false a).1 (starEach_not hs2)) fun _ => rfl
              · exact s_glob ok sn ft fn tk A hs hg hn
            · exact s_glob ok sn ft fn tk A hs hg hn
      · exact both_bad
    · rename_i o m ap
      split
      · rename_i hb
        split
        · rename_i k hk
          exact both_plain (s_mth ft A hs hb.1 hb.2.1 hb.2.2 hk) fun _ => rfl
        · exact both_bad
      · exact both_bad
    · exact both_bad
  · exact both_bad

/-! ### comprehensions -/
theorem assignEach_not {a : Expr} {es : List Expr} {env : L2Env} (h : notStar a = true) : assignEach (a :: es) env = (false, assign a env) :: assignEach es env := by
  cases a <;> first | rfl | cases h
theorem assignEach_len {env : L2Env} : ∀ {es : List Expr}, (assignEach es env).length = es.length
  | [] => rfl
  | a :: es => by
    cases hs : notStar a with
    | true => rw [assignEach_not hs, List.length_cons, List.length_cons, assignEach_len]
    | false =>
      cases a with
      | Starred b p => show (assignEach es env).length + 1 = _; rw [assignEach_len]; rfl
      | _ => cases hs
theorem assignEach_none {env : L2Env} : ∀ {es : List Expr}, noStar es = true → (assignEach es env).findIdx? (·.1) = none
  | [], _ => rfl
  | a :: es, h => by
    obtain ⟨h1, h2⟩ := noStar_cons h
    rw [assignEach_not h1, List.findIdx?_cons, assignEach_none h2]
    rfl
/-- the block that a comprehension runs in -/
abbrev blkX (X : Cx) (scope : Scope) (s : Shared) (H : Hp) (Cc : Addr) (cl : List (Str × Addr)) (fp : List Addr) : Cx := X.blk s H scope (compEnvC scope cl Cc X.env) fp
abbrev blkB (B : Bk) (scope : Scope) : Bk := ⟨B.N, relS scope B.sc, B.fz, B.tb, false⟩
theorem fit_blk (ft : Fit L C d B X) {scope : Scope} {s : Shared} {H : Hp} {Cc : Addr} {cl : List (Str × Addr)} {fp : List Addr} : Fit L C d (blkB B scope) (blkX X scope s H Cc cl fp) :=
  ⟨ft.p, ft.w, ft.K, ft.mg, ft.base, ft.pg, ft.call, ft.fz, ft.N, by show relS scope X.env.scope = relS scope B.sc; rw [ft.sc], ft.nd, ft.calm, ft.callL, ft.room, ft.tb, fun h => nomatch h⟩
theorem s_tgC (ft : Fit L C d B X) {scope : Scope} {own : List (Str × Nat)} {s : Shared} {H : Hp} {Cc : Addr} {cl : List (Str × Addr)} {fp : List Addr} : ∀ n : Nat,
    (∀ e t, erTgC B.N B.sc scope own n e = some t → PG (blkX X scope s H Cc cl fp) e (TGv L.F XF (Tw (own.map (·.2))) (asg C t))) ∧
    (∀ es ts, erTgC.go B.N B.sc scope own n es = some ts → PGs (blkX X scope s H Cc cl fp) es (TGsv L.F XF (Tw (own.map (·.2))) (asgs C ts)) ∧ noStar es = true ∧ ts.len = es.length)
  | 0 => ⟨fun e t h => by simp [erTgC] at h, fun es ts h => by simp [erTgC.go] at h⟩
  | n + 1 => by
    obtain ⟨ih1, ih2⟩ := s_tgC ft (scope := scope) (own := own) (s := s) (H := H) (Cc := Cc) (cl := cl) (fp := fp) n
    have fb : Fit L C d (blkB B scope) (blkX X scope s H Cc cl fp) := fit_blk ft
    refine ⟨fun e t h => ?_, fun es ts h => ?_⟩
    · unfold erTgC at h
      split at h
      · rename_i x p
        split at h
        · rename_i i hi
          split at h
          · rename_i hc
            obtain ⟨c1, c2, c3⟩ := hc
            cases h
            refine gg_name (X := blkX X scope s H Cc cl fp) (T := Tw (own.map (·.2))) (i := i) (kp := true) (fun σ y => wipe_set c3) ft.nd (by rw [← c1, ← ft.N]) ?_ ?_
            · show Loc (blkX X scope s H Cc cl fp).env.scope x
              rw [fb.sc]
              rcases c2 with c2 | c2
              · exact .inl c2
              · exact .inr c2.1
            · rw [fb.sc]
              rcases c2 with c2 | c2
              · exact .inr c2
              · exact .inl (by show (scope.names.lookup x == some .cell) = true; rw [c2.2]; rfl)
          · cases h
        · cases h
      · rename_i es k p
        split at h
        · rename_i ts hts
          cases h
          obtain ⟨q1, q2, q3⟩ := ih2 es ts hts
          exact gg_tp (X := blkX X scope s H Cc cl fp) (n := ts.len) ft.K ft.calm q1 (by rw [assignEach_len, q3]) (assignEach_none q2)
        · cases h
      · cases h
    · cases es with
      | nil =>
        simp only [erTgC.go] at h
        cases h
        refine ⟨?_, rfl, rfl⟩
        have e : asgs C .nil = fun vs ρ O => match vs with | [] => .ok ρ O | _ => .bad := by
          funext vs ρ O
          cases vs <;> rfl
        rw [e]
        exact gg_nil fun σ => rfl
      | cons e r =>
        simp only [erTgC.go] at h
        split at h
        · rename_i hs
          split at h
          · rename_i t us h1 h2
            cases h
            obtain ⟨q1, q2, q3⟩ := ih2 r us h2
            refine ⟨?_, ?_, ?_⟩
            · have e' : asgs C (.cons t us) = fun vs ρ O => match vs with | v :: r => (asg C t v ρ O).bind fun ρ1 O1 => asgs C us r ρ1 O1 | [] => .bad := by
                funext vs ρ O
                cases vs <;> rfl
              rw [e']
              exact gg_cons (fun a b c h1 h2 => h2.trans h1) (ih1 e t h1) q1 (by rw [assignEach_not hs]; rfl)
            · unfold noStar; rw [List.all_cons, hs]; exact q2
            · show us.len + 1 = r.length + 1; rw [q3]
          · cases h
        · cases h

/-! iterators -/
theorem foldSet {it : Expr} {env : L2Env} (h : notSet it = true) : ∀ x, foldedSetIterable it env x = pure x := fun x => by
  unfold foldedSetIterable
  cases it <;> first | rfl | cases h
theorem gi_bad {tg e : Expr} {F : Fx} {E : L2.St → XK} {f : Env → Store → Res Mn.It} (h : ∀ ρ O, f ρ O = .bad) : PI X tg e (TIv F E f) := ⟨fun pins s σ H R I ⟨w, ρ, O, _, _, z⟩ => by
  rw [h] at z
  exact z.bad.elim⟩
theorem s_it (ok : LwOk L) (ft : Fit L C d B X) (A : All1 L X W C B f) {tg e : Expr} : PI X tg e (TIv L.F (WE W) (mkR (erIt (f B false) B.sc tg e).1 (evs' C (erIt (f B false) B.sc tg e).2))) := by
  have seq : ∀ e : Expr, PI X tg e (TIv L.F (WE W) (mkR .seq (evs' C (erA (f B false) [e])))) := fun e => by
    cases hs : notStar e with
    | true =>
      rw [erA_not hs]
      exact gi_seq ft.K (A false e).1
    | false =>
      cases e with
      | Starred b p => exact gi_bad fun ρ O => rfl
      | _ => cases hs
  have rng : isGl B.sc "range" = true → Gl X "range" ∧ X.mg "range" = none := fun h => ⟨isGl_gl ft h, by rw [ft.mg]; exact ok.bi _ (by decide)⟩
  unfold erIt itK
  split
  · rename_i x p a q
    split
    · rename_i h
      obtain ⟨h1, rfl, h3⟩ := h
      have ns : noStar [a] = true := by unfold noStar; simp [h3]
      exact gi_rng1 (rng h1).1 (rng h1).2 (s_args (fun e => (A false e).1) ns) (fun ρ O vs O' z => evs'_len ns z) (starEach_not h3)
    · split
      · rename_i h
        obtain ⟨h1, rfl, h3, h4⟩ := h
        have ns : noStar [a] = true := by unfold noStar; simp [h3]
        cases tg with
        | Tuple es k tp => exact gi_enm ft.K (isGl_gl ft h1) (by rw [ft.mg]; exact ok.bi _ (by decide)) (s_args (fun e => (A false e).1) ns) (fun ρ O vs O' z => evs'_len ns z) (starEach_not h3)
        | _ => cases h4
      · exact seq _
  · rename_i x p a b q
    split
    · rename_i h
      obtain ⟨h1, rfl, h3, h4⟩ := h
      have ns : noStar [a, b] = true := by unfold noStar; simp [h3, h4]
      exact gi_rng2 (rng h1).1 (rng h1).2 (s_args (fun e => (A false e).1) ns) (fun ρ O vs O' z => evs'_len ns z) (by rw [starEach_not h3, starEach_not h4]; rfl) (by rw [starEach_not h4]; rfl)
    · split
      · rename_i h
        obtain ⟨h1, rfl, h3, h4, h5⟩ := h
        have ns : noStar [a, b] = true := by unfold noStar; simp [h3, h4]
        cases tg with
        | Tuple es k tp => exact gi_zip ft.K (isGl_gl ft h1) (by rw [ft.mg]; exact ok.bi _ (by decide)) (s_args (fun e => (A false e).1) ns) (fun ρ O vs O' z => evs'_len ns z) (starEach_not h3) (noStar_plain (noStar_cons ns).2)
        | _ => cases h5
      · exact seq _
  · rename_i x p a b c q
    split
    · rename_i h
      obtain ⟨h1, rfl, h3, h4, h5⟩ := h
      have ns : noStar [a, b, c] = true := by unfold noStar; simp [h3, h4, h5]
      exact gi_rng3 (rng h1).1 (rng h1).2 (s_args (fun e => (A false e).1) ns) (fun ρ O vs O' z => evs'_len ns z) (starEach_not h3) (noStar_plain (noStar_cons ns).2)
    · exact seq _
  · exact seq _
theorem s_conds (A : All1 L X W C B f) {ifs : List Expr} (hi : ifs.all notIf = true) (hn : noStar ifs = true) : PTs X ifs (TCv L.F (WE W) (conds C (erA (f B false) ifs))) := by
  cases ifs with
  | nil => exact gc_nil
  | cons c r =>
    obtain ⟨h1, h2⟩ := noStar_cons hn
    rw [List.all_cons, Bool.and_eq_true] at hi
    rw [erA_not h1]
    cases r with
    | nil => exact gc_one ((A false c).2 hi.1)
    | cons c2 r2 =>
      rw [erA_not (noStar_cons h2).1]
      exact ⟨fun pins st σ H Q I ⟨w, ρ, O, s, r, z⟩ => by
        have z' : Pst L.F w O H (.bad : Res Bool) (fun b _ _ H' => Q b H') (WE W σ) := z
        exact z'.bad.elim⟩
theorem ev_lc {kp : Bool} {elt : Ex} {t : Tg} {k : Ik} {es cs : Exs} {ow : List Nat} : ev C (.cmp1 kp elt t k es cs ow) = lcF kp C.fz (mkR k (evs' C es)) (asg C t) (conds C cs) (ev C elt) ow := by
  funext ρ O
  unfold lcF mkR
  rw [Res.bind_assoc]
  show (evs' C es ρ O).bind _ = _
  congr 1
  funext vs O1
  cases mkIt k vs O1 <;> rfl
theorem takes0 {X : Cx} : Takes X (fun _ _ _ _ => False) := fun _ _ x => by
  obtain ⟨_, _, _, _, _, _, _, _, _, _, _, _, _, _, _, _, z⟩ := x
  exact z.elim
theorem s_lcp (sn : Snd L f) (ft : Fit L C d B X) (fn : L.Fns d) {scope : Scope} {s : Shared} {H : Hp} {Cc : Addr} {cl : List (Str × Addr)} {fp : List Addr} : All1 L (blkX X scope s H Cc cl fp) (fun _ _ _ _ => False) C (blkB B scope) f := fun kp e =>
  sn C d (blkB B scope) (blkX X scope s H Cc cl fp) _ (fit_blk ft) fn takes0 kp e
theorem s_lc (ok : LwOk L) (sn : Snd L f) (ft : Fit L C d B X) (fn : L.Fns d) (A : All1 L X W C B f) {kp : Bool} {elt tg iter : Expr} {ifs : List Expr} {scope : Scope} : Both L X W C (.ListComp elt [⟨tg, iter, ifs, 0⟩] scope pos) (erLc f B kp elt tg iter ifs scope) := by
  unfold erLc
  split
  · rename_i h
    obtain ⟨h1, h2, h3, h4⟩ := h
    split
    · rename_i t ht
      refine both_plain ?_ fun _ => rfl
      rw [ev_lc]
      exact ge_lc (own := ownOf B.N scope) ft.calm ft.nd (s_it ok ft A) (blkOk_by (by rw [ft.N, ft.sc]; exact h1)) (fun s H Cc cl fp => (s_tgC ft 9).1 tg t ht) (fun s H Cc cl fp => s_conds (s_lcp sn ft fn) h3 h4) (fun s H Cc cl fp => (s_lcp sn ft fn _ elt).1) (foldSet h2)
    · exact both_bad
  · exact both_bad
/-! ### all of them -/
theorem s_dict {ks : List (Option Expr)} {vs : List Expr} : Both L X W C (.Dict ks vs pos) (match ks, vs with | [], [] => .edic | _, _ => .bad) := by
  cases ks with
  | nil =>
    cases vs with
    | nil => exact both_plain ge_edic fun _ => rfl
    | cons _ _ => exact both_bad
  | cons _ _ => exact both_bad
theorem snd1 (ok : LwOk L) (sn : Snd L f) : Snd L (er1 L.nm f) := fun C d B X W ft fn tk kp e => by
  have A : All1 L X W C B f := fun kp e => sn C d B X W ft fn tk kp e
  unfold er1
  split
  · exact s_name ok ft
  · exact s_const
  · exact s_bin ok ft fn A
  · split
    · exact s_neg A
    · split
      · rename_i h; exact s_not A h
      · exact both_bad
    · exact both_bad
  · exact ⟨(s_bool A).1, fun _ => (s_bool A).2.pt⟩
  · exact s_compare ft A
  · exact s_ite A
  · exact s_tup ft A
  · exact s_lst ft A
  · exact s_dict
  · exact s_sub ft A
  · exact s_att ok ft fn A
  · split
    · exact s_call ok sn ft fn tk A
    · exact both_bad
  · split
    · exact s_lc ok sn ft fn A
    · exact both_bad
  · exact both_bad
theorem snd_er (ok : LwOk L) : ∀ n, Snd L (er L.nm n)
  | 0 => fun C d B X W ft fn tk kp e => both_bad
  | n + 1 => snd1 ok (snd_er ok n)
end
end Mn
end

section
set_option Elab.async false
set_option linter.all false
set_option maxRecDepth 100000
set_option maxHeartbeats 4000000
/-! M3c: statements: their erasure, and that it means the same. -/
namespace Mn
open PySem PySem.Spec PyProof.Rows L2

/-! ### which names of a def hold lists that it changes -/
def mutE (nm : Nm) : Nat → Expr → List Str
  | 0, _ => []
  | n + 1, e => match e with
    | .Call (.Attribute (.Name x _) m _) args _ _ => (match mthOf m with | some _ => [x] | none => []) ++ args.flatMap (mutE nm n)
    | .Call (.Name f _) (.Name x p :: args) _ _ => (match decide (f ∈ nm.muts) with | true => [x] | false => []) ++ args.flatMap (mutE nm n)
    | .Call (.Name _ _) args _ _ => args.flatMap (mutE nm n)
    | .Tuple es _ _ => es.flatMap (mutE nm n)
    | .List es _ => es.flatMap (mutE nm n)
    | .BinOp a _ b _ => mutE nm n a ++ mutE nm n b
    | .IfExp c a b _ => mutE nm n c ++ mutE nm n a ++ mutE nm n b
    | _ => []
/-- the name at the bottom of a subscripted target -/
def baseOf : Nat → Expr → List Str
  | 0, _ => []
  | n + 1, e => match e with
    | .Subscript (.Name x _) _ _ => [x]
    | .Subscript o _ _ => baseOf n o
    | .Tuple es _ _ => es.flatMap (baseOf n)
    | _ => []
def mutS (nm : Nm) : Nat → Stmt → List Str
  | 0, _ => []
  | n + 1, s => match s with
    | .Assign [.Name x _] (.Call (.Name f _) args _ _) _ => (match decide (f ∈ nm.keeps) with | true => [x] | false => []) ++ mutE nm n (.Call (.Name f ⟨0, 0, 0, 0⟩) args [] ⟨0, 0, 0, 0⟩)
    | .Assign ts v _ => ts.flatMap (baseOf n) ++ mutE nm n v
    | .AugAssign t _ v _ => baseOf n t ++ mutE nm n v
    | .Expr v _ => mutE nm n v
    | .Return (some v) _ => mutE nm n v
    | .If c a b _ => mutE nm n c ++ a.flatMap (mutS nm n) ++ b.flatMap (mutS nm n)
    | .While c a _ _ => mutE nm n c ++ a.flatMap (mutS nm n)
    | .For _ _ a _ _ => a.flatMap (mutS nm n)
    | _ => []

/-! ### the names of comprehensions within -/
def cnE : Nat → Expr → List Str
  | 0, _ => []
  | n + 1, e => match e with
    | .ListComp elt gs sc _ => own sc ++ cnE n elt ++ gs.flatMap fun g => cnE n g.iter ++ g.ifs.flatMap (cnE n)
    | .GeneratorExp elt gs sc _ => own sc ++ cnE n elt ++ gs.flatMap fun g => cnE n g.iter ++ g.ifs.flatMap (cnE n)
    | .BoolOp _ es _ => es.flatMap (cnE n)
    | .BinOp a _ b _ => cnE n a ++ cnE n b
    | .UnaryOp _ a _ => cnE n a
    | .Lambda _ b _ _ => cnE n b
    | .IfExp c a b _ => cnE n c ++ cnE n a ++ cnE n b
    | .Compare a _ es _ => cnE n a ++ es.flatMap (cnE n)
    | .Call f es _ _ => cnE n f ++ es.flatMap (cnE n)
    | .Attribute o _ _ => cnE n o
    | .Subscript a i _ => cnE n a ++ cnE n i
    | .Starred a _ => cnE n a
    | .List es _ => es.flatMap (cnE n)
    | .Tuple es _ _ => es.flatMap (cnE n)
    | _ => []
where
  own (sc : Scope) : List Str := sc.names.filterMap fun p => match p.2 with
    | .local => some p.1
    | .cell => some p.1
    | _ => none
def cnS : Nat → Stmt → List Str
  | 0, _ => []
  | n + 1, s => match s with
    | .Assign ts v _ => ts.flatMap (cnE n) ++ cnE n v
    | .AugAssign t _ v _ => cnE n t ++ cnE n v
    | .Expr v _ => cnE n v
    | .Return (some v) _ => cnE n v
    | .If c a b _ => cnE n c ++ a.flatMap (cnS n) ++ b.flatMap (cnS n)
    | .While c a _ _ => cnE n c ++ a.flatMap (cnS n)
    | .For _ it a _ _ => cnE n it ++ a.flatMap (cnS n)
    | .Try a hs _ _ _ => a.flatMap (cnS n)
    | _ => []
def dedup : List Str → List Str → List Str
  | [], acc => acc.reverse
  | x :: r, acc => match decide (x ∈ acc) with
    | true => dedup r acc
    | false => dedup r (x :: acc)
def slotsOf (sc : Scope) (body : List Stmt) : List Str := dedup (cnE.own sc ++ body.flatMap (cnS 60)) []


/-! ### statements -/
/-- a def: its block, the names of lists that it changes, whether its answer is kept live -/
structure Dk where
  B : Bk
  mu : List Str
  keep : Bool
  fu : Nat
def isLoc (sc : Scope) (x : Str) : Bool := match lookK sc x with | some .local => true | some .cell => true | _ => false
def erTg (nm : Nm) (D : Dk) : Nat → Expr → Option Tg
  | 0, _ => none
  | n + 1, e => match e with
    | .Name x _ => (match ixOf x D.B.N with
      | some i => if isLoc D.B.sc x = true then some (.nm (decide (x ∈ D.mu)) i) else none
      | none => none)
    | .Tuple es _ _ => (match go n es with | some ts => some (.tp ts) | none => none)
    | .Subscript o i _ => if isSlice i = false then some (.sub (er nm (D.fu + 1) D.B false o) (er nm (D.fu + 1) D.B false i)) else none
    | _ => none
where
  go : Nat → List Expr → Option Tgs
    | 0, _ => none
    | _ + 1, [] => some .nil
    | n + 1, e :: r => if notStar e = true then (match erTg nm D n e, go n r with
      | some t, some ts => some (.cons t ts)
      | _, _ => none) else none
def keptT (D : Dk) : Expr → Bool
  | .Name x _ => decide (x ∈ D.mu)
  | _ => !D.B.fz
def isStarred : Expr → Bool
  | .Starred .. => true
  | _ => false
def blkKind (sc : Scope) : ScopeKind := if sc.kind.isAnnotationScope then .function else sc.kind
/-- how a display is stored that is taken apart at once -/
def swR (sc : Scope) (ts vs : List Expr) : Option (Option (List Str)) :=
  if (!(ts.length == 2 || ts.length == 3) || vs.length != ts.length || blkKind sc != .function) = true then some none
  else if vs.any isStarred = true then some none
  else
    let line := (ts.head?.map (·.pos.line)).getD 0
    let names := ts.filterMap fun
      | .Name id pos => if sc.names.lookup id == some .local && pos.line == line then some id else none
      | _ => none
    if (names.length != ts.length || names.eraseDups.length != names.length) = true then some none
    else if vs.all (foldedForSure 8) = true then some none
    else if vs.all (constantsAlone 8) = true then none
    else some (some names)
def isLocal (sc : Scope) (x : Str) : Bool := match lookK sc x with | some .local => true | _ => false
def erPar (nm : Nm) (D : Dk) (ts vs : List Expr) (ns : List Str) : St := match ts, vs with
  | [.Name x p, .Name y q], [a, b] => (match ixOf x D.B.N, ixOf y D.B.N with
    | some i, some j => if ns = [x, y] ∧ i ≠ j ∧ isLocal D.B.sc x = true ∧ isLocal D.B.sc y = true ∧ noStar [a, b] = true then
        .asg (.tp (.cons (.nm (keptT D (.Name x p)) i) (.cons (.nm (keptT D (.Name y q)) j) .nil))) (.tupk (.cons (er nm (D.fu + 1) D.B (keptT D (.Name x p)) a) (.cons (er nm (D.fu + 1) D.B (keptT D (.Name y q)) b) .nil)))
      else .bad
    | _, _ => .bad)
  | [.Name x p, .Name y q, .Name z r], [a, b, c] => (match ixOf x D.B.N, ixOf y D.B.N, ixOf z D.B.N with
    | some i, some j, some l => if ns = [x, y, z] ∧ i ≠ j ∧ i ≠ l ∧ j ≠ l ∧ isLocal D.B.sc x = true ∧ isLocal D.B.sc y = true ∧ isLocal D.B.sc z = true ∧ noStar [a, b, c] = true then
        .asg (.tp (.cons (.nm (keptT D (.Name x p)) i) (.cons (.nm (keptT D (.Name y q)) j) (.cons (.nm (keptT D (.Name z r)) l) .nil))))
          (.tupk (.cons (er nm (D.fu + 1) D.B (keptT D (.Name x p)) a) (.cons (er nm (D.fu + 1) D.B (keptT D (.Name y q)) b) (.cons (er nm (D.fu + 1) D.B (keptT D (.Name z r)) c) .nil))))
      else .bad
    | _, _, _ => .bad)
  | _, _ => .bad
def erNorm (nm : Nm) (D : Dk) (t v : Expr) : St := match erTg nm D 9 t with
  | some g => .asg g (er nm (D.fu + 1) D.B (!D.B.fz) v)
  | none => .bad
def erAsg (nm : Nm) (D : Dk) (t v : Expr) : St := match t with
  | .Name x p => (match ixOf x D.B.N with
    | some i => if isLoc D.B.sc x = true then .asg (.nm (keptT D (.Name x p)) i) (er nm (D.fu + 1) D.B (keptT D (.Name x p)) v) else .bad
    | none => .bad)
  | .Tuple ts k p => (match v with
    | .Tuple vs k2 p2 => (match swR D.B.sc ts vs with
      | some none => erNorm nm D (.Tuple ts k p) (.Tuple vs k2 p2)
      | some (some ns) => erPar nm D ts vs ns
      | none => .bad)
    | v => erNorm nm D (.Tuple ts k p) v)
  | .Subscript o i p => erNorm nm D (.Subscript o i p) v
  | .Attribute o a _ => (match ixOf a nm.atts with
    | some i => .asg (.fld (er nm (D.fu + 1) D.B false o) i) (er nm (D.fu + 1) D.B false v)
    | none => .bad)
  | _ => .bad
def ipB : Bop → Bool
  | .pow => false
  | _ => true
def erAug (nm : Nm) (D : Dk) (t : Expr) (op : Operator) (v : Expr) : St := match erOp op with
  | some o => if ipB o = true then (match t with
    | .Name x _ => (match ixOf x D.B.N with
      | some i => if isLoc D.B.sc x = true then .aug i o (er nm (D.fu + 1) D.B false v) else .bad
      | none => .bad)
    | .Subscript a i _ => if isSlice i = false then .augS (er nm (D.fu + 1) D.B false a) (er nm (D.fu + 1) D.B false i) o (er nm (D.fu + 1) D.B false v) else .bad
    | _ => .bad) else .bad
  | none => .bad
/-- x = zip(a, b); return tuple([.. for .. in x ..]) -/
def zz (nm : Nm) (D : Dk) (s t : Stmt) : Option St := match s, t with
  | .Assign [.Name x _] (.Call (.Name z _) [a, b] [] _) _, .Return (some (.Call (.Name u _) [.ListComp elt [⟨.Tuple elts kk tp, .Name y _, ifs, 0⟩] scope _] [] _)) _ => (match ixOf x D.B.N with
    | some k => if y = x ∧ z = "zip" ∧ u = "tuple" ∧ isLoc D.B.sc x = true ∧ isVis D.B.sc x = true ∧ nmOk x = true ∧ isGl D.B.sc "zip" = true ∧ isGl D.B.sc "tuple" = true ∧ notStar a = true ∧ notStar b = true ∧
          blkC D.B.N D.B.sc scope (ownOf D.B.N scope) = true ∧ ifs.all notIf = true ∧ noStar ifs = true then
        (match erTgC D.B.N D.B.sc scope (ownOf D.B.N scope) 9 (.Tuple elts kk tp) with
          | some g => some (.zr k (.blt .tuple false (.cons (.cmp1 false (er nm D.fu ⟨D.B.N, relS scope D.B.sc, D.B.fz, D.B.tb, false⟩ (!D.B.fz) elt) g .zip (erA (er nm D.fu D.B false) [a, b]) (erA (er nm D.fu ⟨D.B.N, relS scope D.B.sc, D.B.fz, D.B.tb, false⟩ false) ifs) ((ownOf D.B.N scope).map (·.2))) .nil)))
          | none => none) else none
    | none => none)
  | _, _ => none
def erSs (p : Stmt → Stmt → Option St) (f : Stmt → St) : List Stmt → Ss
  | [] => .nil
  | s :: r => match r with
    | [t] => (match p s t with
      | some u => .cons u .nil
      | none => .cons (f s) (.cons (f t) .nil))
    | r => .cons (f s) (erSs p f r)
def erS1 (nm : Nm) (D : Dk) (f : Stmt → St) (s : Stmt) : St := match s with
  | .Assign ts v _ => (match ts with
    | [t] => erAsg nm D t v
    | _ => .bad)
  | .AugAssign t op v _ => erAug nm D t op v
  | .Expr e _ => if isLc e = false then .ex (er nm (D.fu + 1) D.B false e) else .bad
  | .Return e _ => (match e with | some e => .ret (er nm (D.fu + 1) D.B D.keep e) | none => .ret .non)
  | .If c a b _ => if notIf c = true then .ifs (er nm (D.fu + 1) D.B false c) (erSs (zz nm D) f a) (erSs (zz nm D) f b) else .bad
  | .While c a e _ => if notIf c = true then (match e with | [] => .whl (er nm (D.fu + 1) D.B false c) (erSs (zz nm D) f a) | _ => .bad) else .bad
  | .For tg it a e _ => (match e with
    | [] => if notSet it = true then (match erTg nm D 9 tg with
      | some t => .fr t (erIt (er nm (D.fu + 1) D.B false) D.B.sc tg it).1 (erIt (er nm (D.fu + 1) D.B false) D.B.sc tg it).2 (erSs (zz nm D) f a)
      | none => .bad) else .bad
    | _ => .bad)
  | .Break _ => .brk
  | .Continue _ => .cnt
  | .Raise e c _ => (match e, c with
    | some (.Call (.Name x _) [a] [] _), none => if isGl D.B.sc x = true ∧ nmOk x = true ∧ notStar a = true then (match excIx nm.excs x with
        | some (c, false) => (match a with
          | .Constant (.str _) _ _ => .rse c .nil
          | _ => .bad)
        | some (c, true) => .rse c (.cons (er nm (D.fu + 1) D.B false a) .nil)
        | none => .bad) else .bad
    | _, _ => .bad)
  | _ => .bad
def erS (nm : Nm) (D : Dk) : Nat → Stmt → St
  | 0, _ => .bad
  | n + 1, s => erS1 nm D (erS nm D n) s

/-! ### a def that takes a lambda: its first statement calls it, in a try -/
/-- a handler's constant -/
def erHc : Const → Option Val
  | .none => some .non
  | .bool b => some (.bl b)
  | .int i => some (.int i)
  | .str s => some (.str s)
  | _ => none
/-- a part of a handler's answer: n the error's name, f its field -/
def erHa (sc : Scope) (n : Option Str) (f : Str) : Expr → Option Ha
  | .Constant c _ _ => (match erHc c with | some v => some (.c v) | none => none)
  | .Attribute (.Name y _) g _ => if some y = n ∧ g = f ∧ isVis sc y = true ∧ nmOk y = true then some .f else none
  | .Call (.Name r _) [.Attribute (.Name y _) g _] [] _ => if r = "repr" ∧ isGl sc r = true ∧ some y = n ∧ g = f ∧ isVis sc y = true ∧ nmOk y = true then some .rf else none
  | _ => none
def erHx (sc : Scope) (n : Option Str) (f : Str) : Expr → Option Hx
  | .Tuple [a, b] _ _ => (match erHa sc n f a, erHa sc n f b with | some a', some b' => if notStar a = true ∧ notStar b = true then some (.pair a' b') else none | _, _ => none)
  | e => (match erHa sc n f e with | some a' => some (.one a') | none => none)
def nmLoc (N : List Str) (sc : Scope) : Option Str → Bool
  | none => true
  | some n => decide (sc.names.lookup n = some .local) && (ixOf n N).isSome
def erHds (nm : Nm) (N : List Str) (sc : Scope) : List ExceptHandler → Option Hds
  | [] => some .nil
  | h :: r => match h with
    | .ExceptHandler (some (.Name x _)) n [.Return (some e) _] _ => if isGl sc x = true ∧ nmOk x = true ∧ nmLoc N sc n = true then (match excIx nm.excs x, erHds nm N sc r with
      | some (i, true), some hs => (match erHx sc n (nm.xfl.getD i ("", 0)).1 e with | some h => some (.cons i h hs) | none => none)
      | some (i, false), some hs => (match erHx sc none Str.empty e with | some h => some (.cons i h hs) | none => none)
      | _, _ => none) else none
    | _ => none

/-! ### soundness -/
structure FitS (L : Lw) (C : Ctx) (d : Nat) (B : Bk) (X : Cx) (E : XK) : Prop where
  ft : Fit L C d B X
  fn : ∀ x, X.fn x = true
  tk : Takes X (fun cls dd _ H => E cls dd H)
  po : PassesOwn (model X.prog X.w) X.A X.env X.xe
def SndS (L : Lw) (D : Dk) (f : Stmt → St) : Prop := ∀ (C : Ctx) (d : Nat) (X : Cx) (E : XK), FitS L C d D.B X E → L.Fns d → ∀ s : Stmt, PS X s (TSv L.F E (ex C (f s)))
section
variable {L : Lw} {C : Ctx} {d : Nat} {D : Dk} {X : Cx} {E : XK} {pos : Pos}
abbrev WS (E : XK) : WX := fun cls dd _ H => E cls dd H
theorem ps_bad {s : Stmt} : PS X s (TSv L.F E (ex C .bad)) := ⟨fun pins st σ H D I ⟨w, ρ, O, _, _, z⟩ => by
  have z' : Pst L.F w O H (.bad : Res Fl) (RS L.F D) E := z
  exact z'.bad.elim⟩
theorem a40 (ok : LwOk L) (fs : FitS L C d D.B X E) (fn : L.Fns d) : All1 L X (WS E) C D.B (er L.nm (D.fu + 1)) := fun kp e => snd_er ok (D.fu + 1) C d D.B X (WS E) fs.ft fn fs.tk kp e
theorem isLoc_loc (fs : FitS L C d D.B X E) {x : Str} (h : isLoc D.B.sc x = true) : L2.Loc X.env.scope x := by
  unfold isLoc lookK at h
  unfold L2.Loc
  rw [fs.ft.sc]
  split at h <;> simp_all
theorem isLocal_loc (fs : FitS L C d D.B X E) {x : Str} (h : isLocal D.B.sc x = true) : X.env.scope.names.lookup x = some .local := by
  unfold isLocal lookK at h
  rw [fs.ft.sc]
  split at h <;> simp_all
theorem ix_N (fs : FitS L C d D.B X E) {x : Str} {i : Nat} (h : ixOf x D.B.N = some i) : X.N[i]? = some x := by
  rw [fs.ft.N]; exact ixOf_get h
theorem s_tg (ok : LwOk L) (fs : FitS L C d D.B X E) (fn : L.Fns d) : ∀ n : Nat,
    (∀ e t, erTg L.nm D n e = some t → PG X e (TGv L.F E (fun _ _ => True) (asg C t))) ∧
    (∀ es ts, erTg.go L.nm D n es = some ts → PGs X es (TGsv L.F E (fun _ _ => True) (asgs C ts)) ∧ noStar es = true ∧ ts.len = es.length)
  | 0 => ⟨fun e t h => by simp [erTg] at h, fun es ts h => by simp [erTg.go] at h⟩
  | n + 1 => by
    obtain ⟨ih1, ih2⟩ := s_tg ok fs fn n
    have A := a40 ok fs fn
    refine ⟨fun e t h => ?_, fun es ts h => ?_⟩
    · unfold erTg at h
      split at h
      · rename_i x p
        split at h
        · rename_i i hi
          split at h
          · rename_i hc
            cases h
            have e : asg C (.nm (decide (x ∈ D.mu)) i) = nmG (decide (x ∈ D.mu)) i := by funext v ρ O; rfl
            rw [e]
            exact gg_name (fun _ _ => trivial) fs.ft.nd (ix_N fs hi) (isLoc_loc fs hc) (.inl (fs.fn x))
          · cases h
        · cases h
      · rename_i es k p
        split at h
        · rename_i ts hts
          cases h
          obtain ⟨q1, q2, q3⟩ := ih2 es ts hts
          exact gg_tp (n := ts.len) fs.ft.K fs.ft.calm q1 (by rw [assignEach_len, q3]) (assignEach_none q2)
        · cases h
      · rename_i o i p
        split at h
        · rename_i hi
          cases h
          refine gg_sub (fz := C.fz) (A false o).1 (A false i).1 (fun _ => trivial) fun v => ?_
          cases i <;> first | rfl | cases hi
        · cases h
      · cases h
    · cases es with
      | nil =>
        simp only [erTg.go] at h
        cases h
        refine ⟨?_, rfl, rfl⟩
        have e : asgs C .nil = fun vs ρ O => match vs with | [] => .ok ρ O | _ => .bad := by
          funext vs ρ O
          cases vs <;> rfl
        rw [e]
        exact gg_nil fun _ => trivial
      | cons e r =>
        simp only [erTg.go] at h
        split at h
        · rename_i hs
          split at h
          · rename_i t us h1 h2
            cases h
            obtain ⟨q1, q2, q3⟩ := ih2 r us h2
            refine ⟨?_, ?_, ?_⟩
            · have e' : asgs C (.cons t us) = fun vs ρ O => match vs with | v :: r => (asg C t v ρ O).bind fun ρ1 O1 => asgs C us r ρ1 O1 | [] => .bad := by
                funext vs ρ O
                cases vs <;> rfl
              rw [e']
              exact gg_cons (fun _ _ _ _ _ => trivial) (ih1 e t h1) q1 (by rw [assignEach_not hs]; rfl)
            · unfold noStar; rw [List.all_cons, hs]; exact q2
            · show us.len + 1 = r.length + 1; rw [q3]
          · cases h
        · cases h
theorem swapped {sc : Scope} {ts vs : List Expr} {k k2 : Nat} {p p2 : Pos} (hs : X.env.scope = sc) {r : Option (List Str)} (h : swR sc ts vs = some r) : swappedStores [.Tuple ts k p] (.Tuple vs k2 p2) X.env = pure r := by
  subst hs
  unfold swR at h
  unfold swappedStores
  dsimp only at *
  try simp only [pure_bind]
  split
  · rename_i c1
    split at h
    · cases h; rfl
    · rename_i c1'
      exact absurd c1 c1'
  rename_i c1
  split at h
  · rename_i c1'
    exact absurd c1' c1
  split
  · rename_i c2
    have c2' : vs.any isStarred = true := c2
    rw [if_pos c2'] at h
    cases h; rfl
  rename_i c2
  have c2' : ¬ vs.any isStarred = true := fun q => c2 q
  rw [if_neg c2'] at h
  split
  · rename_i c3
    split at h
    · cases h; rfl
    · rename_i c3'
      exact absurd c3 c3'
  rename_i c3
  split at h
  · rename_i c3'
    exact absurd c3' c3
  split
  · rename_i c4
    rw [if_pos c4] at h
    cases h; rfl
  rename_i c4
  rw [if_neg c4] at h
  split
  · rename_i c5
    rw [if_pos c5] at h
    cases h
  rename_i c5
  rw [if_neg c5] at h
  cases h
  rfl

theorem lc_swap {elt : Expr} {gs : List Comprehension} {scope : Scope} {lpos p : Pos} {x : Str} {ln : Nat} {env : L2Env} :
    swapsWith (.ListComp elt gs scope lpos) (some (.Name x p)) ln env = pure (env.blockKind == .function && env.kindOf x == some .local && p.line == lpos.line && !(scope.names.any fun (n, k) => n == x && (k == .local || k == .cell))) := rfl
theorem no_swap {v : Expr} {t : Option Expr} {ln : Nat} {env : L2Env} (h : isLc v = false) : swapsWith v t ln env = pure false := by
  cases v <;> first | rfl | cases h
theorem no_swapA {v o : Expr} {a : Str} {p : Pos} {ln : Nat} {env : L2Env} : swapsWith v (some (.Attribute o a p)) ln env = pure false := by
  cases v <;> rfl
theorem no_swapS {v o i : Expr} {p : Pos} {ln : Nat} {env : L2Env} : swapsWithSole [.Subscript o i p] v ln env = pure false := by
  cases v <;> rfl
theorem no_swapT {v : Expr} {ts : List Expr} {k : Nat} {p : Pos} {ln : Nat} {env : L2Env} : swapsWithSole [.Tuple ts k p] v ln env = pure false := by
  cases v <;> rfl
theorem ex_nm {kp : Bool} {i : Nat} {x : Ex} : ex C (.asg (.nm kp i) x) = asgF (ev C x) (nmG kp i) := rfl
theorem er_lc40 {nm : Nm} {k : Nat} {B : Bk} {z : Bool} {elt : Expr} {gs : List Comprehension} {scope : Scope} {lpos : Pos} : er nm (k + 1) B z (.ListComp elt gs scope lpos) = (match gs with
    | [⟨tg, iter, ifs, 0⟩] => erLc (er nm k) B z elt tg iter ifs scope
    | _ => .bad) := rfl
theorem s_setn (ok : LwOk L) (fs : FitS L C d D.B X E) (fn : L.Fns d) {x : Str} {p : Pos} {v : Expr} {i : Nat} {kp z : Bool} (hi : ixOf x D.B.N = some i) (hl : isLoc D.B.sc x = true) :
    PS X (.Assign [.Name x p] v pos) (TSv L.F E (ex C (.asg (.nm kp i) (er L.nm (D.fu + 1) D.B z v)))) := by
  have A := a40 ok fs fn
  have plain : swapsWith v (some (.Name x p)) pos.line X.env = pure false → PS X (.Assign [.Name x p] v pos) (TSv L.F E (ex C (.asg (.nm kp i) (er L.nm (D.fu + 1) D.B z v)))) := fun hs =>
    gs_set (kp := kp) (A z v).1 fs.ft.nd (ix_N fs hi) (isLoc_loc fs hl) hs (.inl (fs.fn x))
  cases hv : isLc v with
  | false => exact plain (no_swap hv)
  | true =>
    have badE : ∀ {v : Expr}, PS X (.Assign [.Name x p] v pos) (TSv L.F E (ex C (.asg (.nm kp i) .bad))) := fun {v} =>
      ⟨fun pins st σ H D I ⟨w, ρ, O, _, _, z⟩ => by
        have z' : Pst L.F w O H (.bad : Res Fl) (RS L.F D) E := z
        exact z'.bad.elim⟩
    cases v with
    | ListComp elt gs scope lpos =>
      cases hb : (X.env.blockKind == .function && X.env.kindOf x == some .local && p.line == lpos.line && !(scope.names.any fun (n, k) => n == x && (k == .local || k == .cell))) with
      | false => exact plain (by rw [lc_swap, hb])
      | true =>
        have hxl : X.env.scope.names.lookup x = some .local := by
          rw [Bool.and_eq_true, Bool.and_eq_true, Bool.and_eq_true] at hb
          exact eq_of_beq hb.1.1.2
        rw [er_lc40]
        split
        · rename_i tg iter ifs
          unfold erLc
          split
          · rename_i h
            obtain ⟨h1, h2, h3, h4⟩ := h
            split
            · rename_i t ht
              rw [ex_nm, ev_lc]
              have sn := snd_er (L := L) ok D.fu
              have A9 : All1 L X (WS E) C D.B (er L.nm D.fu) := fun kp e => sn C d D.B X (WS E) fs.ft fn fs.tk kp e
              exact gs_setLc (own := ownOf D.B.N scope) fs.ft.calm fs.ft.nd (ix_N fs hi) hxl (by rw [lc_swap, hb]) (s_it ok fs.ft A9) (blkOk_by (by rw [fs.ft.N, fs.ft.sc]; exact h1)) (fun s H Cc cl fp => (s_tgC fs.ft 9).1 tg t ht)
                (fun s H Cc cl fp => s_conds (s_lcp sn fs.ft fn) h3 h4) (fun s H Cc cl fp => (s_lcp sn fs.ft fn _ elt).1) (foldSet h2)
            · rename_i ht
              exact badE
          · rename_i h
            exact badE
        · exact badE
    | SetComp _ _ _ _ => exact badE
    | DictComp _ _ _ _ _ => exact badE
    | _ => cases hv
theorem starE2 {a b : Expr} (hn : noStar [a, b] = true) {f g : Env → Store → Res Val} {x y : Ex} (ha : PE X a (TEv L.F (WE (WS E)) (ev C x))) (hb : PE X b (TEv L.F (WE (WS E)) (ev C y))) :
    PA X [a, b] (TAv L.F (fun _ => E) (evs' C (.cons x (.cons y .nil)))) :=
  ga_cons ha (ga_cons hb ga_nil (starEach_not (noStar_cons (noStar_cons hn).2).1)) (starEach_not (noStar_cons hn).1)
theorem starE3 {a b c : Expr} (hn : noStar [a, b, c] = true) {x y z : Ex} (ha : PE X a (TEv L.F (WE (WS E)) (ev C x))) (hb : PE X b (TEv L.F (WE (WS E)) (ev C y))) (hc : PE X c (TEv L.F (WE (WS E)) (ev C z))) :
    PA X [a, b, c] (TAv L.F (fun _ => E) (evs' C (.cons x (.cons y (.cons z .nil))))) :=
  ga_cons ha (ga_cons hb (ga_cons hc ga_nil (starEach_not (noStar_cons (noStar_cons (noStar_cons hn).2).2).1)) (starEach_not (noStar_cons (noStar_cons hn).2).1)) (starEach_not (noStar_cons hn).1)
theorem asgs_par : ∀ (ns : List (Bool × Nat)) (ts : Tgs), ts = ns.foldr (fun p r => .cons (.nm p.1 p.2) r) .nil → asgs C ts = parG ns
  | [], ts, h => by
    subst h
    funext vs ρ O
    cases vs <;> rfl
  | (k, i) :: ns, ts, h => by
    subst h
    have ih := asgs_par ns _ rfl
    funext vs ρ O
    cases vs with
    | nil => rfl
    | cons v r =>
      show (asg C (.nm k i) v ρ O).bind (fun ρ1 O1 => asgs C (ns.foldr (fun p r => .cons (.nm p.1 p.2) r) .nil) r ρ1 O1) = _
      rw [ih]; rfl
theorem s_par (ok : LwOk L) (fs : FitS L C d D.B X E) (fn : L.Fns d) {ts vs : List Expr} {k k2 : Nat} {p p2 : Pos} {ns : List Str} (h : swR D.B.sc ts vs = some (some ns)) :
    PS X (.Assign [.Tuple ts k p] (.Tuple vs k2 p2) pos) (TSv L.F E (ex C (erPar L.nm D ts vs ns))) := by
  have A := a40 ok fs fn
  have hw := swapped (k := k) (k2 := k2) (p := p) (p2 := p2) fs.ft.sc h
  unfold erPar
  split
  · rename_i x px y py a b
    split
    · rename_i i j hi hj
      split
      · rename_i hc
        obtain ⟨c1, c2, c3, c4, c5⟩ := hc
        subst c1
        have e : ex C (.asg (.tp (.cons (.nm (keptT D (.Name x px)) i) (.cons (.nm (keptT D (.Name y py)) j) .nil))) (.tupk (.cons (er L.nm (D.fu + 1) D.B (keptT D (.Name x px)) a) (.cons (er L.nm (D.fu + 1) D.B (keptT D (.Name y py)) b) .nil)))) =
            parF (evs' C (.cons (er L.nm (D.fu + 1) D.B (keptT D (.Name x px)) a) (.cons (er L.nm (D.fu + 1) D.B (keptT D (.Name y py)) b) .nil))) [(keptT D (.Name x px), i), (keptT D (.Name y py), j)] := by
          unfold parF
          rw [← asgs_par (C := C) [(keptT D (.Name x px), i), (keptT D (.Name y py), j)] _ rfl]
          rfl
        rw [e]
        exact gs_par2 fs.ft.calm fs.ft.nd (ix_N fs hi) (ix_N fs hj) c2 (isLocal_loc fs c3) (isLocal_loc fs c4) (starE2 (f := fun _ _ => .bad) (g := fun _ _ => .bad) c5 (A _ a).1 (A _ b).1) hw no_swapT
      · exact ps_bad
    · exact ps_bad
  · rename_i x px y py z pz a b c
    split
    · rename_i i j l hi hj hl
      split
      · rename_i hc
        obtain ⟨c1, c2, c3, c4, c5, c6, c7, c8⟩ := hc
        subst c1
        have e : ex C (.asg (.tp (.cons (.nm (keptT D (.Name x px)) i) (.cons (.nm (keptT D (.Name y py)) j) (.cons (.nm (keptT D (.Name z pz)) l) .nil)))) (.tupk (.cons (er L.nm (D.fu + 1) D.B (keptT D (.Name x px)) a) (.cons (er L.nm (D.fu + 1) D.B (keptT D (.Name y py)) b) (.cons (er L.nm (D.fu + 1) D.B (keptT D (.Name z pz)) c) .nil))))) =
            parF (evs' C (.cons (er L.nm (D.fu + 1) D.B (keptT D (.Name x px)) a) (.cons (er L.nm (D.fu + 1) D.B (keptT D (.Name y py)) b) (.cons (er L.nm (D.fu + 1) D.B (keptT D (.Name z pz)) c) .nil)))) [(keptT D (.Name x px), i), (keptT D (.Name y py), j), (keptT D (.Name z pz), l)] := by
          unfold parF
          rw [← asgs_par (C := C) [(keptT D (.Name x px), i), (keptT D (.Name y py), j), (keptT D (.Name z pz), l)] _ rfl]
          rfl
        rw [e]
        exact gs_par3 fs.ft.calm fs.ft.nd (ix_N fs hi) (ix_N fs hj) (ix_N fs hl) c2 c3 c4 (isLocal_loc fs c5) (isLocal_loc fs c6) (isLocal_loc fs c7) (starE3 c8 (A _ a).1 (A _ b).1 (A _ c).1) hw no_swapT
      · exact ps_bad
    · exact ps_bad
  · exact ps_bad
theorem ex_asg {t : Tg} {x : Ex} : ex C (.asg t x) = asgF (ev C x) (asg C t) := rfl
theorem s_norm (ok : LwOk L) (fs : FitS L C d D.B X E) (fn : L.Fns d) {t v : Expr} (hs : swapsWithSole [t] v pos.line X.env = pure false) (hw : swappedStores [t] v X.env = pure none) (hn : notStar t = true) :
    PS X (.Assign [t] v pos) (TSv L.F E (ex C (erNorm L.nm D t v))) := by
  have A := a40 ok fs fn
  unfold erNorm
  split
  · rename_i g hg
    rw [ex_asg]
    exact gs_asg (A _ v).1 ((s_tg ok fs fn 9).1 t g hg) hs hw (by rw [assignEach_not hn]; rfl)
  · exact ps_bad
theorem s_asg (ok : LwOk L) (fs : FitS L C d D.B X E) (fn : L.Fns d) {t v : Expr} : PS X (.Assign [t] v pos) (TSv L.F E (ex C (erAsg L.nm D t v))) := by
  have A := a40 ok fs fn
  unfold erAsg
  split
  · rename_i x p
    split
    · rename_i i hi
      split
      · rename_i hl
        exact s_setn ok fs fn hi hl
      · exact ps_bad
    · exact ps_bad
  · rename_i ts k p
    cases v with
    | Tuple vs k2 p2 =>
      dsimp only
      split
      · rename_i h
        exact s_norm ok fs fn no_swapT (swapped fs.ft.sc h) rfl
      · rename_i ns h
        exact s_par ok fs fn h
      · exact ps_bad
    | _ => exact s_norm ok fs fn no_swapT rfl rfl
  · exact s_norm ok fs fn no_swapS (by cases v <;> rfl) rfl
  · rename_i o a p
    split
    · rename_i i hi
      have e : ex C (.asg (.fld (er L.nm (D.fu + 1) D.B false o) i) (er L.nm (D.fu + 1) D.B false v)) = asgF (ev C (er L.nm (D.fu + 1) D.B false v)) (fldG L.pg (ev C (er L.nm (D.fu + 1) D.B false o)) i) := by
        unfold fldG
        rw [← fs.ft.pg]; rfl
      rw [e]
      exact gs_fld fs.ft.K (ok.att _ _ hi) (A false o).1 (A false v).1 no_swapA
    · exact ps_bad
  · exact ps_bad
theorem ip_ok {o : Bop} (h : ipB o = true) : ipOk o = true := by cases o <;> first | rfl | cases h
theorem s_aug (ok : LwOk L) (fs : FitS L C d D.B X E) (fn : L.Fns d) {t v : Expr} {op : Operator} : PS X (.AugAssign t op v pos) (TSv L.F E (ex C (erAug L.nm D t op v))) := by
  have A := a40 ok fs fn
  unfold erAug
  split
  · rename_i o ho
    rw [← erOp_op ho]
    split
    · rename_i hp
      split
      · rename_i x p
        split
        · rename_i i hi
          split
          · rename_i hl
            exact gs_aug (ip_ok hp) fs.ft.nd (ix_N fs hi) (isLoc_loc fs hl) (A false v).1 (.inl (fs.fn x))
          · exact ps_bad
        · exact ps_bad
      · rename_i a i p
        split
        · rename_i hi
          refine gs_augS (ip_ok hp) (A false a).1 (A false i).1 (A false v).1 fun ov iv new => ?_
          cases i <;> first | rfl | cases hi
        · exact ps_bad
      · exact ps_bad
    · exact ps_bad
  · exact ps_bad
variable {f : Stmt → St}
theorem s_zz (ok : LwOk L) (fs : FitS L C d D.B X E) (fn : L.Fns d) {s t : Stmt} {u : St} (h : zz L.nm D s t = some u) : PSs X [s, t] (TSv L.F E (exs C (.cons u .nil))) := by
  unfold zz at h
  split at h
  · rename_i x p1 z p2 a b p3 p4 u1 p5 elt elts kk tp y p6 ifs scope lpos p7 p8
    split at h
    · rename_i k hk
      split at h
      · rename_i hc
        obtain ⟨c1, c2, c3, c4, c5, c6, c7, c8, c9, c10, c11, c12, c13⟩ := hc
        subst c1 c2 c3
        split at h
        · rename_i g hg
          cases h
          have sn := snd_er (L := L) ok D.fu
          have A9 : All1 L X (WS E) C D.B (er L.nm D.fu) := fun kp e => sn C d D.B X (WS E) fs.ft fn fs.tk kp e
          have e : exs C (.cons (.zr k (.blt .tuple false (.cons (.cmp1 false (er L.nm D.fu ⟨D.B.N, relS scope D.B.sc, D.B.fz, D.B.tb, false⟩ (!D.B.fz) elt) g .zip (erA (er L.nm D.fu D.B false) [a, b]) (erA (er L.nm D.fu ⟨D.B.N, relS scope D.B.sc, D.B.fz, D.B.tb, false⟩ false) ifs) ((ownOf D.B.N scope).map fun p : Str × Nat => p.2)) .nil))) .nil) =
              fun ρ O => match Nat.blt k ρ.length with
                | true => ((((ev C (.cmp1 false (er L.nm D.fu ⟨D.B.N, relS scope D.B.sc, D.B.fz, D.B.tb, false⟩ (!D.B.fz) elt) g .zip (erA (er L.nm D.fu D.B false) [a, b]) (erA (er L.nm D.fu ⟨D.B.N, relS scope D.B.sc, D.B.fz, D.B.tb, false⟩ false) ifs) ((ownOf D.B.N scope).map fun p : Str × Nat => p.2))) (ρ.set k none) O).bind fun x O1 => (Res.ok ([] : List Val) O1).bind fun xs O2 => Res.ok (x :: xs) O2).bind fun vs O1 => ofO2 (bltV .tuple false vs O1)).bind fun v O1 => .ok (.rt v) O1
                | false => .bad := by
            funext ρ O
            show ((match Nat.blt k ρ.length with
              | true => (ev C (.blt .tuple false (.cons (.cmp1 false (er L.nm D.fu ⟨D.B.N, relS scope D.B.sc, D.B.fz, D.B.tb, false⟩ (!D.B.fz) elt) g .zip (erA (er L.nm D.fu D.B false) [a, b]) (erA (er L.nm D.fu ⟨D.B.N, relS scope D.B.sc, D.B.fz, D.B.tb, false⟩ false) ifs) ((ownOf D.B.N scope).map fun p : Str × Nat => p.2)) .nil)) (ρ.set k none) O).bind fun v O1 => Res.ok (Fl.rt v) O1
              | false => .bad).bind fun f O1 => match f with
                | .nx ρ1 => Res.ok (Fl.nx ρ1) O1
                | f => .ok f O1) = _
            cases Nat.blt k ρ.length with
            | false => rfl
            | true =>
              dsimp only
              rw [Res.bind_assoc]
              rfl
          rw [e, ev_lc]
          have ns : noStar [a, b] = true := by
            unfold noStar
            simp [c9, c10]
          exact gs_zipret (kp := false) (own := ownOf D.B.N scope) fs.ft.K fs.ft.calm fs.ft.nd (ix_N fs hk) (isLoc_loc fs c4) (by rw [fs.ft.sc]; exact isVis_vis c5) (nmOk_1 c6).1 (nmOk_1 c6).2 (.inl (fs.fn _)) (isGl_gl fs.ft c7) (by rw [fs.ft.mg]; exact ok.bi _ (by simp)) (isGl_gl fs.ft c8) (by rw [fs.ft.mg]; exact ok.bi _ (by simp))
            (s_args (fun e => (A9 false e).1) ns) (starEach_not c9) (noStar_plain (noStar_cons ns).2) (blkOk_by (by rw [fs.ft.N, fs.ft.sc]; exact c11)) (fun s H Cc cl fp => (s_tgC fs.ft 9).1 _ g hg)
            (fun s H Cc cl fp => s_conds (s_lcp sn fs.ft fn) c12 c13) (fun s H Cc cl fp => (s_lcp sn fs.ft fn _ elt).1)
        · cases h
      · cases h
    · cases h
  · cases h
theorem s_ss {p : Stmt → Stmt → Option St} (sp : ∀ s t u, p s t = some u → PSs X [s, t] (TSv L.F E (exs C (.cons u .nil)))) (sn : ∀ s : Stmt, PS X s (TSv L.F E (ex C (f s)))) : ∀ {ss : List Stmt}, PSs X ss (TSv L.F E (exs C (erSs p f ss)))
  | [] => gs_nil
  | [s] => gs_cons (sn s) gs_nil
  | [s, t] => by
    unfold erSs
    dsimp only
    split
    · rename_i u hu
      exact sp s t u hu
    · exact gs_cons (sn s) (gs_cons (sn t) gs_nil)
  | s :: t :: v :: r => gs_cons (sn s) (s_ss sp sn)
theorem it_E {tg it : Expr} {g : Env → Store → Res Mn.It} (h : PI X tg it (TIv L.F (WE (WS E)) g)) : PI X tg it (TIv L.F (fun _ => E) g) := h
theorem ev_for {t : Tg} {k : Ik} {es : Exs} {b : Ss} : ex C (.fr t k es b) = fun ρ O => (mkR k (evs' C es) ρ O).bind fun it O1 => loopI (itGet it) (foT (asg C t) (exs C b)) TURNS 0 (.nx ρ) O1 := by
  funext ρ O
  unfold mkR ex
  rw [Res.bind_assoc]
  generalize TURNS = T
  congr 1
  funext vs O1
  cases mkIt k vs O1 with
  | none => rfl
  | some it =>
    have e : ∀ T i f O, loopI (itGet it) (foT (asg C t) (exs C b)) T i f O = loopI (itGet it) (fun v f O2 => match f with
        | .nx ρ1 => (asg C t v ρ1 O2).bind fun ρ2 O3 => (exs C b ρ2 O3).bind fun g O4 => match g with
          | .nx ρ3 => .ok (.nx ρ3, true) O4
          | .ct ρ3 => .ok (.nx ρ3, true) O4
          | .bk ρ3 => .ok (.nx ρ3, false) O4
          | .rt v => .ok (.rt v, false) O4
        | _ => .bad) T i f O := fun T i f O => rfl
    exact (e T 0 (.nx ρ) O1).symm
theorem ev_whl {c : Ex} {b : Ss} : ex C (.whl c b) = fun ρ O => loopW (whT (ev C c) (exs C b)) TURNS (.nx ρ) O := by
  funext ρ O
  unfold ex
  generalize TURNS = T
  rfl
theorem s_rse (ok : LwOk L) (fs : FitS L C d D.B X E) {x m : Str} {c j : Nat} {p p2 p3 : Pos} (hg : isGl D.B.sc x = true) (hn : nmOk x = true) (hc : excIx L.nm.excs x = some (c, false)) :
    PS X (.Raise (some (.Call (.Name x p) [.Constant (.str m) j p2] [] p3)) none pos) (TSv L.F E (ex C (.rse c .nil))) := by
  obtain ⟨q1, q2, q3, q4, q5⟩ := ok.exc x c hc
  have ne := (ok.excN x c _ hc).1
  refine (ps_raise (W := WS E) fs.ft.calm fs.tk (pmk_own (C := L.F.ea c) PySem.F.excBase_ValueError (by rw [fs.ft.K]; exact q1) (by rw [fs.ft.mg]; exact q2) (by rw [fs.ft.K]; exact q3) (raises_own (by rw [fs.ft.K]; exact q4) (by rw [fs.ft.K]; exact q5)) (isGl_gl fs.ft hg) (nmOk_1 hn).1)).imp fun D2 σ H ⟨w, ρ, O, s, r, z⟩ => ?_
  have z' : Pst L.F w O H (.exc c [] O : Res Fl) (RS L.F D2) E := z
  exact z' w H s Le.refl _ _ ⟨ne, rfl, rfl⟩
theorem s_rseF (ok : LwOk L) (fs : FitS L C d D.B X E) (fn : L.Fns d) {x : Str} {a : Expr} {c : Nat} {p p3 : Pos} (hg : isGl D.B.sc x = true) (hn : nmOk x = true) (hs : notStar a = true) (hc : excIx L.nm.excs x = some (c, true)) :
    PS X (.Raise (some (.Call (.Name x p) [a] [] p3)) none pos) (TSv L.F E (ex C (.rse c (.cons (er L.nm (D.fu + 1) D.B false a) .nil)))) := by
  obtain ⟨k, T, _, _⟩ := ok.excF x c hc
  obtain ⟨ne, hm⟩ := ok.excN x c _ hc
  have e : ex C (.rse c (.cons (er L.nm (D.fu + 1) D.B false a) .nil)) = fun ρ O => (ev C (er L.nm (D.fu + 1) D.B false a) ρ O).bind fun v O1 => .exc c [v] O1 := by
    funext ρ O
    show (evs' C (.cons (er L.nm (D.fu + 1) D.B false a) .nil) ρ O).bind _ = _
    have e1 : evs' C (.cons (er L.nm (D.fu + 1) D.B false a) .nil) ρ O = (ev C (er L.nm (D.fu + 1) D.B false a) ρ O).bind fun x O1 => (Res.ok ([] : List Val) O1).bind fun xs O2 => .ok (x :: xs) O2 := rfl
    rw [e1]
    cases ev C (er L.nm (D.fu + 1) D.B false a) ρ O <;> rfl
  rw [e]
  have h1 : 1 ≤ 4 * d + 1 := by omega
  exact gs_rseF (bs_ok k) (by rw [fs.ft.K, fs.ft.p]; exact T) fs.ft.calm fs.tk (by rw [fs.ft.mg]; exact ok.bi _ (by simp)) (fs.ft.room.r.mono h1) (isGl_gl fs.ft hg) (by rw [fs.ft.mg]; exact hm) ne ((a40 ok fs fn) false a).1 (starEach_not hs) (nmOk_1 hn).1
theorem sndS1 (ok : LwOk L) (sn : SndS L D f) : SndS L D (erS1 L.nm D f) := fun C d X E fs fn s => by
  have A := a40 ok fs fn
  have S : ∀ s : Stmt, PS X s (TSv L.F E (ex C (f s))) := fun s => sn C d X E fs fn s
  have Z : ∀ s t u, zz L.nm D s t = some u → PSs X [s, t] (TSv L.F E (exs C (.cons u .nil))) := fun s t u h => s_zz ok fs fn h
  unfold erS1
  split
  · split
    · exact s_asg ok fs fn
    · exact ps_bad
  · exact s_aug ok fs fn
  · split
    · rename_i h
      exact gs_expr (A false _).1 (no_swap h)
    · exact ps_bad
  · split
    · exact gs_ret (A D.keep _).1
    · exact gs_retN
  · split
    · rename_i h
      exact gs_if ((A false _).2 h) (s_ss Z S) (s_ss Z S)
    · exact ps_bad
  · split
    · rename_i h
      split
      · rw [ev_whl]
        exact gs_while fs.po ((A false _).2 h) (s_ss Z S)
      · exact ps_bad
    · exact ps_bad
  · split
    · split
      · rename_i h
        split
        · rename_i t ht
          rw [ev_for]
          exact gs_for fs.po fs.ft.calm (s_it ok fs.ft A) ((s_tg ok fs fn 9).1 _ t ht) (s_ss Z S) (foldSet h)
        · exact ps_bad
      · exact ps_bad
    · exact ps_bad
  · exact gs_brk
  · exact gs_cnt
  · split
    · split
      · rename_i h
        split
        · rename_i c hc
          split
          · exact s_rse ok fs h.1 h.2.1 hc
          · exact ps_bad
        · rename_i c hc
          exact s_rseF ok fs fn h.1 h.2.1 h.2.2 hc
        · exact ps_bad
      · exact ps_bad
    · exact ps_bad
  · exact ps_bad
theorem sndS (ok : LwOk L) : ∀ n, SndS L D (erS L.nm D n)
  | 0 => fun C d X E fs fn s => ps_bad
  | n + 1 => sndS1 ok (sndS ok n)
end
end Mn
end

section
set_option Elab.async false
set_option linter.all false
set_option maxRecDepth 100000
set_option maxHeartbeats 400000
/-! M3d: a def of the text keeps its promise, when all do to one depth less. -/
namespace Mn
open PySem PySem.Spec PyProof.Rows L2

section
variable {F : Fx} {w : Wd} {O : Store} {H : Hp} {E : XK} {Q : VK}
theorem lv_pst (s : SOk F w O H) {keep : Bool} {v : Val} {O1 : Store} (z : Pst F w O H (leave O.length keep v O1) (RE F Q) E) {w' : Wd} {H' : Hp} (s' : SOk F w' O1 H') (l : Le w O H w' O1 H') {x : V} (r : Rp F w' O1.length H' v x) : Q x H' := by
  unfold leave at z
  cases keep with
  | true => exact z w' H' s' l x r
  | false =>
    dsimp only at z
    split at z
    · rename_i v2 O2 hc
      obtain ⟨w2, s2, l2, r2⟩ := close_step s' r hc
      have l3 := l.trans l2
      split at z
      · rename_i hb
        rw [Bool.and_eq_true] at hb
        have hl : (O2.take O.length).length = O.length := by rw [List.length_take]; have := l3.len; omega
        have q := z w2 H' (s2.take O.length (by rw [hl]; exact hb.2)) (l3.take O.length (Nat.le_refl _)) x
        exact q (by rw [hl]; exact Rp.lt v2 x r2 hb.1)
      · exact z w2 H' s2 l3 x r2
    · exact z.bad.elim
theorem ExR.lt {n m : Nat} {c : Nat} {p : List Val} {cls : Value} {dd : Option Addr} (h : ExR F w n H c p cls dd) (hl : ltAll m p = true) : ExR F w m H c p cls dd := by
  obtain ⟨h1, h2, h3⟩ := h
  refine ⟨h1, h2, ?_⟩
  match p, h3, hl with
  | [], h3, _ => exact h3
  | [v], h3, hl =>
    obtain ⟨da, x, q1, q2, q3⟩ := h3
    have hl2 : (v.lt m && true) = true := hl
    rw [Bool.and_true] at hl2
    exact ⟨da, x, q1, q2, Rp.lt v x q3 hl2⟩
theorem run_pst (s : SOk F w O H) {X : Ctx} {Fn : Mn.Fn} {ρ : Env} (z : Pst F w O H (runF X Fn ρ O) (RE F Q) E) : Pst F w O H (exs X Fn.body ρ O) (RS F { nx := fun _ H' => Q .non H', rt := Q }) E := by
  unfold runF at z
  cases h : exs X Fn.body ρ O with
  | ok fl O1 =>
    rw [h] at z
    intro w' H' s' l
    cases fl with
    | rt v => exact fun x r => lv_pst s z s' l r
    | nx ρ1 => exact fun σ _ => lv_pst s (v := .non) z s' l (x := .non) rfl
    | bk ρ1 => exact z.bad.elim
    | ct ρ1 => exact z.bad.elim
  | exc c p O1 =>
    rw [h] at z
    intro w' H' s' l cls dd he
    dsimp only at z
    split at z
    · rename_i hb
      rw [Bool.and_eq_true] at hb
      have hl : (O1.take O.length).length = O.length := by rw [List.length_take]; have := l.len; omega
      exact z w' H' (s'.take O.length (by rw [hl]; exact hb.2)) (l.take O.length (Nat.le_refl _)) cls dd (by rw [hl]; exact he.lt hb.1)
    · exact z w' H' s' l cls dd he
  | bad =>
    rw [h] at z
    exact z.bad.elim
theorem start_rok {n : Nat} {vs : List Val} {xs : List V} (r : RpL F w n H vs xs) {N : List Str} : ROk F w n H (vs.map some ++ List.replicate (N.length - vs.length) none) (L2.start N xs) := by
  refine ⟨?_, fun i v e => ?_⟩
  · unfold L2.start
    rw [List.length_append, List.length_append, List.length_map, List.length_map, List.length_replicate, List.length_replicate, r.length]
  · by_cases hi : i < vs.length
    · rw [List.getElem?_append_left (by simpa using hi), List.getElem?_map] at e
      cases e1 : vs[i]? with
      | none => rw [e1] at e; cases e
      | some u =>
        rw [e1] at e
        cases e
        obtain ⟨x, q1, q2⟩ := r.get e1
        refine ⟨x, ?_, q2⟩
        unfold L2.start
        rw [List.getElem?_append_left (by rw [List.length_map, ← r.length]; exact hi), List.getElem?_map, q1]
        rfl
    · rw [List.getElem?_append_right (by simpa using hi), List.getElem?_replicate] at e
      split at e <;> cases e
end

/-! ### binding -/
theorem look_some {n : Str} : ∀ {ps : List Str} {us : List Value}, n ∈ ps → us.length = ps.length → ∃ v, (ps.zip us).lookup n = some v
  | [], _, h, _ => by cases h
  | p :: ps, [], _, hl => by cases hl
  | p :: ps, u :: us, h, hl => by
    rw [List.zip_cons_cons, List.lookup_cons]
    cases e : n == p with
    | true => exact ⟨u, rfl⟩
    | false =>
      rcases List.mem_cons.mp h with h | h
      · subst h; simp at e
      · exact look_some h (by simpa using hl)
theorem fm_congr {α β : Type} {f g : α → Option β} : ∀ {l : List α}, (∀ a ∈ l, f a = g a) → l.filterMap f = l.filterMap g
  | [], _ => rfl
  | a :: l, h => by
    rw [List.filterMap_cons, List.filterMap_cons, h a (List.mem_cons_self ..), fm_congr fun b hb => h b (List.mem_cons_of_mem _ hb)]
theorem look_zip : ∀ {ps : List Str} {us : List Value}, ps.Nodup → us.length = ps.length → ps.filterMap (fun n => ((ps.zip us).lookup n).map (n, ·)) = ps.zip us
  | [], _, _, _ => by simp
  | p :: ps, [], _, hl => by cases hl
  | p :: ps, u :: us, hn, hl => by
    rw [List.nodup_cons] at hn
    rw [List.zip_cons_cons]
    have e : ps.filterMap (fun n => (((p, u) :: ps.zip us).lookup n).map (n, ·)) = ps.filterMap (fun n => ((ps.zip us).lookup n).map (n, ·)) := fm_congr fun n hm => by
      have : (n == p) = false := by
        cases e : n == p with
        | true => exact (hn.1 (by rw [← eq_of_beq e]; exact hm)).elim
        | false => rfl
      rw [List.lookup_cons, this]
    have e0 : (((p, u) :: ps.zip us).lookup p).map (p, ·) = some (p, u) := by rw [List.lookup_cons, beq_self_eq_true]; rfl
    have ih := look_zip hn.2 (us := us) (by simpa using hl)
    rw [List.filterMap_cons, e0, e, ih]
theorem bind_plain {x qual : Str} {as : List Arg} {body : List Stmt} {scope : Scope} {kV doc pm : Value} {an : Option Addr} {cdv ct : Value} {us : List Value} (hn : (as.map (·.arg)).Nodup) (hl : us.length = (as.map (·.arg)).length) :
   bindArgs (PySem.W.fnOf x qual ⟨[], as, none, [], [], none, []⟩ body scope .none kV doc pm an cdv ct) ⟨us, []⟩ = pure ((as.map (·.arg)).zip us) := by
  have e : ∀ k, ((as.map (·.arg)).take k).filter (fun n => (((as.map (·.arg)).zip us).lookup n).isNone) = [] := fun k => by
    rw [List.filter_eq_nil_iff]
    intro n hm
    obtain ⟨v, q⟩ := look_some (List.mem_of_mem_take hm) hl
    rw [q]; simp
  have e2 := look_zip hn hl
  rw [List.filterMap_map] at e2
  have e3 : notAStandIn Value.none = pure () := by first | rfl | (unfold notAStandIn; rfl)
  unfold bindArgs
  simp only [List.map_nil, List.nil_append, List.append_nil]
  simp [seqItems?, hl, e3]
  refine (if_neg fun q => ?_).trans (congrArg pure e2)
  rw [e] at q
  simp at q

section
variable {L : Lw}
/-- a def's code object -/
def codeA (K : PySem.W.Frag) (a : Addr) : Addr := match K.lookup a with
  | some ⟨_, _, .func fd, _⟩ => (match fd.code with
    | .ref c => c
    | _ => 0)
  | _ => 0
theorem codeA_eq {K : PySem.W.Frag} {a : Addr} {oc : Value} {od : Option Addr} {fd : FuncData} {osl : Array (Option Value)} {q : Str} (lk : K.lookup a = some ⟨oc, od, .func fd, osl⟩) (h : PySem.W.codeIn K fd.code q = true) : fd.code = .ref (codeA K a) := by
  obtain ⟨c, e⟩ := He.codeIn_ref h
  unfold codeA
  rw [lk]
  dsimp only
  rw [e]
/-- what is asked of the table of the def at f, if it has one -/
def TbAt (L : Lw) (b : Bool) (f : Addr) : Prop := b = true → ∃ P, GxR.TabB L.base L.mg (codeA L.F.K f) P ∧ (P, none) ∈ L.F.T
/-- .. of lambdas -/
def LbAt (L : Lw) (b : Bool) (f : Addr) (qual : Str) : Prop := b = true → ∃ P, LamX.TabB L.base L.mg (codeA L.F.K f) P ∧ (P, some (qual ++ ".<locals>." ++ "<lambda>")) ∈ L.F.T ∧ ∀ p ∈ L.F.T, p.1 = P → p.2 = some (qual ++ ".<locals>." ++ "<lambda>")
theorem rok_none {F : Fx} {w : Wd} {n m : Nat} {H : Hp} {σ : L2.St} (h : σ.length = m) : ROk F w n H (List.replicate m none) σ := ⟨by rw [List.length_replicate, h], fun i v e => by
  rw [List.getElem?_replicate] at e
  split at e <;> cases e⟩
theorem fit_cx {d : Nat} {C : Ctx} {D : Dk} {x qual : Str} {scope : Scope} {f : Addr} {cdv : Value} {A : Around} {outer : List PySem.Env} {s0 : Shared} {H0 : Hp} {E : XK} {CX : CXT} (hC : C.pg = L.pg ∧ C.call = callAt L.pg d ∧ C.callL = callLAt L.pg d ∧ C.fz = D.B.fz) (hsc : D.B.sc = scope) (nd : D.B.N.Nodup)
    (hcd : cdv = .ref (codeA L.F.K f)) (htb : TbAt L D.B.tb f) (hlb : LbAt L D.B.lb f qual) (hr : Room (4 * d + 3) (A.deeper (envOfC qual scope s0.heap.objs.size f cdv))) :
    Fit L C d D.B (cxOf CX L.P L.w L.F.K L.mg L.base D.B.N qual scope f cdv A outer s0 H0 E) :=
  ⟨rfl, rfl, rfl, rfl, rfl, hC.1, hC.2.1, hC.2.2.2, rfl, hsc.symm, nd, rfl, hC.2.2.1, hr.mono (by omega), fun hb => (htb hb).elim fun P q => ⟨_, P, hcd, q.1, q.2⟩, fun hb => (hlb hb).elim fun P q => ⟨_, P, hcd, q.1, q.2.1, q.2.2, hr⟩⟩
theorem fn_ok (ok : LwOk L) {d i : Nat} (fn : L.Fns d) {x qual : Str} {as : List Arg} {body : List Stmt} {scope : Scope} {fd : FuncData} (F : FunD L.F.K x qual ⟨[], as, none, [], [], none, []⟩ body scope [] [] (L.F.fa i) fd) {D : Dk} {n : Nat}
    (hFn : L.pg.fns[i]? = some ⟨as.length, D.B.N.length, erSs (zz L.nm D) (erS L.nm D n) body, D.B.fz, false, D.keep⟩) (hS : FnScope D.B.N (as.map (·.arg)) scope) (hsc : D.B.sc = scope) (htb : TbAt L D.B.tb (L.F.fa i)) (hlb : LbAt L D.B.lb (L.F.fa i) qual) :
    FnOk L.P L.w L.F.K L.mg L.base (L2.CX L.P L.w) (4 * d + 3 + 1) (L.F.fa i) fd (as.map (·.arg)) (spF L.F (callAt L.pg (d + 1) i)) := by
  have ec : ∀ vs O, callAt L.pg (d + 1) i vs O = (match startEnv ⟨as.length, D.B.N.length, erSs (zz L.nm D) (erS L.nm D n) body, D.B.fz, false, D.keep⟩ vs with
      | some ρ => runF ⟨L.pg, D.B.fz, callAt L.pg d, callLAt L.pg d, fun _ => .bad⟩ ⟨as.length, D.B.N.length, erSs (zz L.nm D) (erS L.nm D n) body, D.B.fz, false, D.keep⟩ ρ O
      | none => .bad) := fun vs O => by
    show (match L.pg.fns[i]? with
      | some F => match startEnv F vs with
        | some ρ => runF ⟨L.pg, F.fz, callAt L.pg d, callLAt L.pg d, fun _ => .bad⟩ F ρ O
        | none => .bad
      | none => .bad) = _
    rw [hFn]
  have se : ∀ vs, startEnv ⟨as.length, D.B.N.length, erSs (zz L.nm D) (erS L.nm D n) body, D.B.fz, false, D.keep⟩ vs = (match Nat.beq vs.length as.length with
    | true => some (vs.map some ++ List.replicate (D.B.N.length - as.length) none)
    | false => none) := fun vs => rfl
  obtain ⟨oc, od, dV, kV, doc, pm, an, cdv, ct, osl, rfl, lk, hcd, _, _⟩ := F.ex
  refine fn_of (N := D.B.N) lk hcd hS (fun xs H Q E ⟨w, O, vs, s, r, z⟩ => ?_) fun A outer s0 H0 xs Q E hr ⟨w, O, vs, s, r, z⟩ => ?_
  · rw [ec, se] at z
    split at z
    · rename_i hz
      split at hz
      · rename_i hl
        rw [← r.length, List.length_map]
        exact Nat.eq_of_beq_eq_true hl
      · cases hz
    · exact z.bad.elim
  · rw [ec, se] at z
    split at z
    · rename_i ρ hz
      split at hz
      · rename_i hl
        have hl := Nat.eq_of_beq_eq_true hl
        cases hz
        have fs : FitS L ⟨L.pg, D.B.fz, callAt L.pg d, callLAt L.pg d, fun _ => .bad⟩ d D.B (cxOf (L2.CX L.P L.w) L.P L.w L.F.K L.mg L.base D.B.N qual scope (L.F.fa i) cdv A outer s0 H0 E) E :=
          ⟨fit_cx (x := x) ⟨rfl, rfl, rfl, rfl⟩ hsc hS.nd (codeA_eq lk hcd) htb hlb hr, fun _ => rfl, takes_of rfl rfl rfl rfl, passes_of rfl⟩
        refine ⟨_, s_ss (fun _ _ _ h => s_zz ok fs fn h) fun st => sndS ok n _ d _ E fs fn st, w, _, O, s, ?_, run_pst s z⟩
        rw [← hl]
        exact start_rok r
      · cases hz
    · exact z.bad.elim
theorem fn_lvl (ok : LwOk L) {d i : Nat} (fn : L.Fns d) {x qual : Str} {as : List Arg} {body : List Stmt} {scope : Scope} {fd : FuncData} (F : FunD L.F.K x qual ⟨[], as, none, [], [], none, []⟩ body scope [] [] (L.F.fa i) fd) {D : Dk} {n : Nat}
    (hFn : L.pg.fns[i]? = some ⟨as.length, D.B.N.length, erSs (zz L.nm D) (erS L.nm D n) body, D.B.fz, false, D.keep⟩) (hS : FnScope D.B.N (as.map (·.arg)) scope) (hsc : D.B.sc = scope) (htb : TbAt L D.B.tb (L.F.fa i)) (hlb : LbAt L D.B.lb (L.F.fa i) qual)
    (hb : Binds L.F.K fd (as.map (·.arg)) []) : FnR L.P L.w L.F.K L.mg L.base (L2.CX L.P L.w) (4 * (d + 1)) (L.F.fa i) (spF L.F (callAt L.pg (d + 1) i)) := by
  have ok1 := fn_ok ok fn F hFn hS hsc htb hlb
  have q := ok1.raw hb (dvs := []) .nil
  refine q.imp fun vs H Q E h => ?_
  rw [List.append_nil]
  exact h
/-- a def that gets all in a tuple -/
theorem fn_va (ok : LwOk L) {d i : Nat} (fn : L.Fns d) {x qual : Str} {va : Arg} {body : List Stmt} {scope : Scope} {fd : FuncData} (F : FunD L.F.K x qual ⟨[], [], some va, [], [], none, []⟩ body scope [] [] (L.F.fa i) fd) {D : Dk} {n : Nat}
    (hFn : L.pg.fns[i]? = some ⟨0, D.B.N.length, erSs (zz L.nm D) (erS L.nm D n) body, D.B.fz, true, D.keep⟩) (hS : FnScope D.B.N [va.arg] scope) (hsc : D.B.sc = scope) (htb : TbAt L D.B.tb (L.F.fa i)) (hlb : LbAt L D.B.lb (L.F.fa i) qual) :
    FnR L.P L.w L.F.K L.mg L.base (L2.CX L.P L.w) (4 * (d + 1)) (L.F.fa i) (spF L.F (callAt L.pg (d + 1) i)) := by
  have ec : ∀ vs O, callAt L.pg (d + 1) i vs O = (match (match !anyOwn vs && smallLen vs.length with
        | true => some (some (.tup vs) :: List.replicate (D.B.N.length - 1) none)
        | false => none : Option Mn.Env) with
      | some ρ => runF ⟨L.pg, D.B.fz, callAt L.pg d, callLAt L.pg d, fun _ => .bad⟩ ⟨0, D.B.N.length, erSs (zz L.nm D) (erS L.nm D n) body, D.B.fz, true, D.keep⟩ ρ O
      | none => .bad) := fun vs O => by
    show (match L.pg.fns[i]? with
      | some F => match startEnv F vs with
        | some ρ => runF ⟨L.pg, F.fz, callAt L.pg d, callLAt L.pg d, fun _ => .bad⟩ F ρ O
        | none => .bad
      | none => .bad) = _
    rw [hFn]
    rfl
  obtain ⟨oc, od, dV, kV, doc, pm, an, cdv, ct, osl, rfl, lk, hcd, hD, _⟩ := F.ex
  have hD : dV = .none := by
    rcases hD with ⟨_, e⟩ | ⟨e, _⟩
    · exact e
    · exact absurd rfl e
  subst hD
  have q := Mn.fn_star (CX := L2.CX L.P L.w) (P := L.P) (w := L.w) (mg := L.mg) (base := L.base) (k := 4 * d + 3) (N := D.B.N) (ps := []) (pv := va.arg) (sp := fun xs H Q E => ∃ w O vs p, SOk L.F w O H ∧ xs = [V.ref p] ∧ Rp L.F w O.length H (.tup vs) (.ref p) ∧
      Pst L.F w O H (runF ⟨L.pg, D.B.fz, callAt L.pg d, callLAt L.pg d, fun _ => .bad⟩ ⟨0, D.B.N.length, erSs (zz L.nm D) (erS L.nm D n) body, D.B.fz, true, D.keep⟩ (some (.tup vs) :: List.replicate (D.B.N.length - 1) none) O) (RE L.F Q) E) lk hcd hS StX.cxUp (fun us rest hl => ?_)
    fun A outer s0 H0 xs Q E hr ⟨w, O, vs, p, s, e, r, z⟩ => ?_
  · refine q.imp fun xs H Q E ⟨w, O, vs, s, r, z⟩ => ?_
    rw [ec] at z
    split at z
    · rename_i ρ hz
      split at hz
      · rename_i hb
        rw [Bool.and_eq_true] at hb
        cases hz
        refine ⟨[], xs, rfl, rfl, by rw [← r.length]; exact smallLen_le hb.2, fun p hp => ?_⟩
        obtain ⟨s1, l1⟩ := s.alloc (.tup xs) (fun _ z => nomatch z) hp
        exact ⟨_, O, vs, p, s1, rfl, ⟨p, xs, rfl, .inl ⟨.inr rfl, upd_same⟩, r.le s l1⟩, z.after l1⟩
      · cases hz
    · exact z.bad.elim
  · cases us with
    | nil =>
      cases rest with
      | nil => rfl
      | cons r rs => rfl
    | cons u us => cases hl
  · subst e
    have fs : FitS L ⟨L.pg, D.B.fz, callAt L.pg d, callLAt L.pg d, fun _ => .bad⟩ d D.B (cxOf (L2.CX L.P L.w) L.P L.w L.F.K L.mg L.base D.B.N qual scope (L.F.fa i) cdv A outer s0 H0 E) E :=
      ⟨fit_cx (x := x) ⟨rfl, rfl, rfl, rfl⟩ hsc hS.nd (codeA_eq lk hcd) htb hlb hr, fun _ => rfl, takes_of rfl rfl rfl rfl, passes_of rfl⟩
    refine ⟨_, s_ss (fun _ _ _ h => s_zz ok fs fn h) fun st => sndS ok n _ d _ E fs fn st, w, _, O, s, ?_, run_pst s z⟩
    exact start_rok (RpL.one r)
/-! ### a def that gets a lambda -/
theorem hc_pe {X : Cx} {c : Const} {v : Val} {k : Nat} {p : Pos} (h : erHc c = some v) : ∃ x, PE X (.Constant c k p) (tC x) ∧ ∀ {F : Fx} (w n H), Rp F w n H v x := by
  unfold erHc at h
  split at h
  · cases h; exact ⟨.non, pe_non, fun _ _ _ => rfl⟩
  · cases h; exact ⟨.bl _, pe_bl, fun _ _ _ => rfl⟩
  · cases h; exact ⟨.int _, pe_int, fun _ _ _ => rfl⟩
  · cases h; exact ⟨.str _, pe_str, fun _ _ _ => rfl⟩
  · cases h
section
variable {X : Cx} {sc : Scope} {a : Addr} {oe : Obj} {cls : Value} {d : Option Addr} {pn : List (Addr × Obj)} {n : Option Str} {at_ : Option Nat} {f : Str} {pos : Pos}
theorem ha_pe (hK : X.K = L.F.K) (hsc : X.env.scope = sc) (hm : X.mg "repr" = none) (hgd : X.A.guards = some []) (hu : X.A.units + 200 < cLine) (hz : Zc cls d oe) (hf : ∃ vs, oe.data = .fields vs) (hn : ∀ y, n = some y → ∃ i, at_ = some i ∧ X.N[i]? = some y) {e : Expr} {h : Ha} (he : erHa sc n f e = some h) :
    PE (X.suite a ((a, oe) :: pn)) e (tHa L.F a cls d at_ f h) := by
  have fld : ∀ {y : Str} {p1 p2 : Pos}, some y = n → isVis sc y = true → nmOk y = true → PE (X.suite a ((a, oe) :: pn)) (.Attribute (.Name y p1) f p2) (tHa L.F a cls d at_ f .f) := fun {y p1 p2} e1 e2 e3 => by
    obtain ⟨i, ei, hi⟩ := hn y e1.symm
    subst ei
    exact h_f hK hz hf hi (by rw [hsc]; exact isVis_vis e2) (nmOk_1 e3).1 (nmOk_1 e3).2
  unfold erHa at he
  split at he
  · split at he
    · rename_i v hv
      cases he
      obtain ⟨x, q1, q2⟩ := hc_pe (X := X.suite a ((a, oe) :: pn)) hv
      exact h_c q1 fun w n H => q2 w n H
    · cases he
  · split at he
    · rename_i hc
      cases he
      obtain ⟨c1, c2, c3, c4⟩ := hc
      subst c2
      exact fld c1 c3 c4
    · cases he
  · split at he
    · rename_i hc
      cases he
      obtain ⟨c0, c00, c1, c2, c3, c4⟩ := hc
      subst c0 c2
      refine h_rf hK ?_ hm hgd hu (fld c1 c3 c4) rfl
      show X.env.scope.names.lookup ("repr" : Str) = _
      rw [hsc]
      have q := c00
      unfold isGl lookK at q
      split at q <;> simp_all
    · cases he
  · cases he
theorem hx_pe (hK : X.K = L.F.K) (hsc : X.env.scope = sc) (hm : X.mg "repr" = none) (hgd : X.A.guards = some []) (hu : X.A.units + 200 < cLine) (hz : Zc cls d oe) (hf : ∃ vs, oe.data = .fields vs) (hn : ∀ y, n = some y → ∃ i, at_ = some i ∧ X.N[i]? = some y) {e : Expr} {h : Hx} (he : erHx sc n f e = some h) :
    PSs (X.suite a ((a, oe) :: pn)) [.Return (some e) pos] (tHx L.F a cls d at_ f h) := by
  have one : ∀ {e : Expr} {h : Hx}, (match erHa sc n f e with | some a' => some (Hx.one a') | none => none) = some h → PSs (X.suite a ((a, oe) :: pn)) [.Return (some e) pos] (tHx L.F a cls d at_ f h) := fun {e h} he => by
    split at he
    · rename_i h' hh
      cases he
      exact h_one (ha_pe hK hsc hm hgd hu hz hf hn hh)
    · cases he
  unfold erHx at he
  split at he
  · split at he
    · rename_i a' b' h1 h2
      split at he
      · rename_i hs
        cases he
        exact h_pair (ha_pe hK hsc hm hgd hu hz hf hn h1) (ha_pe hK hsc hm hgd hu hz hf hn h2) (starEach_not hs.1) (starEach_not hs.2)
      · cases he
    · cases he
  · exact one he
end
theorem nm_at {X : Cx} {N : List Str} {sc : Scope} (hN : X.N = N) (hsc : X.env.scope = sc) {n : Option Str} (h : nmLoc N sc n = true) : ∃ at_, NmAt X n at_ := by
  cases n with
  | none => exact ⟨none, trivial⟩
  | some y =>
    have h : (decide (sc.names.lookup y = some NameKind.local) && (ixOf y N).isSome) = true := h
    rw [Bool.and_eq_true] at h
    obtain ⟨i, hi⟩ := Option.isSome_iff_exists.mp h.2
    refine ⟨some i, by rw [hN]; exact ixOf_get hi, ?_⟩
    show X.env.scope.names.lookup y = _
    rw [hsc]
    exact of_decide_eq_true h.1
theorem nmAt_ix {X : Cx} {n : Option Str} {at_ : Option Nat} (h : NmAt X n at_) {y : Str} (e : n = some y) : ∃ i, at_ = some i ∧ X.N[i]? = some y := by
  subst e
  cases at_ with
  | none => exact (show False from h).elim
  | some i => exact ⟨i, rfl, h.1⟩
theorem hnd_cons {P : Pg} {i : Nat} {h : Hx} {r : Hds} {c : Nat} {p : List Val} {O : Store} : hnd P (.cons i h r) c p O = (match P.exm c i with
    | true => (match hxV p O h with
      | some v => .ok (.rt v) O
      | none => .bad)
    | false => hnd P r c p O) := rfl
theorem endsN_rt {D : Ends} {at_ : Option Nat} : (endsN D at_).rt = D.rt := by cases at_ <;> rfl
theorem slotAt_N {σ : L2.St} {a : Addr} {at_ : Option Nat} (h : ∀ i, at_ = some i → i < σ.length) : slotAt (slotN σ a at_) a at_ := by
  cases at_ with
  | none => trivial
  | some i =>
    show (σ.set i (some (.ref a)))[i]? = _
    rw [List.getElem?_set_self (h i rfl)]
theorem usesX_none {sc : Scope} {e : Expr} {h : Hx} (he : erHx sc none f e = some h) : usesX h = false := by
  have one : ∀ {e : Expr} {h : Ha}, erHa sc none f e = some h → usesF h = false := fun {e h} he => by
    unfold erHa at he
    split at he
    · split at he
      · cases he; rfl
      · cases he
    · split at he
      · rename_i hc; cases hc.1
      · cases he
    · split at he
      · rename_i hc; cases hc.2.2.1
      · cases he
    · cases he
  have one' : ∀ {e : Expr} {h : Hx}, (match erHa sc none f e with | some a' => some (Hx.one a') | none => none) = some h → usesX h = false := fun {e h} he => by
    split at he
    · rename_i h' hh
      cases he
      exact one hh
    · cases he
  unfold erHx at he
  split at he
  · split at he
    · rename_i a' b' h1 h2
      split at he
      · cases he
        show (usesF a' || usesF b') = false
        rw [one h1, one h2]; rfl
      · cases he
    · cases he
  · exact one' he
theorem hds_ok (ok : LwOk L) {X : Cx} {N : List Str} {sc : Scope} (hN : X.N = N) (hK : X.K = L.F.K) (hm : X.mg = L.mg) (hsc : X.env.scope = sc) (hgd : X.A.guards = some []) (hu : X.A.units + 200 < cLine) : ∀ {hds : List ExceptHandler} {Hs : Hds}, erHds L.nm N sc hds = some Hs → ∃ l, HsN X hds l ∧
    ∀ {w w' : Wd} {O O1 : Store} {H H' : Hp} {c : Nat} {p : List Val} {cls : Value} {dd : Option Addr} {D1 D2 : Ends} {K : Fl → Store → Res Fl} {σ' : L2.St}, D1.rt = D2.rt → (∀ v O, K (.rt v) O = .ok (.rt v) O) → σ'.length = N.length →
      Pst L.F w O H ((hnd L.pg Hs c p O1).bind K) (RS L.F D1) (fun _ _ _ => False) → SOk L.F w' O1 H' → Le w O H w' O1 H' → ExR L.F w' O1.length H' c p cls dd → wN X.K (fun _ _ _ _ => False) D2 l cls dd σ' H'
  | [], Hs, h => by
    cases h
    refine ⟨[], .nil, fun hD hK hl z s l e => ?_⟩
    exact z _ _ s l _ _ e
  | h0 :: r, Hs, h => by
    unfold erHds at h
    split at h
    · rename_i x np nm e p1 p2
      split at h
      · rename_i hg
        obtain ⟨hg1, hg2, hg3⟩ := hg
        have gl : X.env.scope.names.lookup x = some .globalImplicit := by
          rw [hsc]
          have q := hg1
          unfold isGl lookK at q
          split at q <;> simp_all
        obtain ⟨at_, hat⟩ := nm_at hN hsc hg3
        have core : ∀ (i : Nat) (b : Bool) (hs : Hds) (hx : Hx) (f : Str), excIx L.nm.excs x = some (i, b) → erHds L.nm N sc r = some hs → (∀ a oe cls d pn, Zc cls d oe → (∃ vs, oe.data = .fields vs) → PSs (X.suite a ((a, oe) :: pn)) [.Return (some e) p1] (tHx L.F a cls d at_ f hx)) →
            (usesX hx = true → ∀ c, c < L.F.ne → L.pg.exm c i = true → FdOk L.F c f) → Hs = .cons i hx hs → ∃ l, HsN X (.ExceptHandler (some (.Name x np)) nm [.Return (some e) p1] p2 :: r) l ∧
            ∀ {w w' : Wd} {O O1 : Store} {H H' : Hp} {c : Nat} {p : List Val} {cls : Value} {dd : Option Addr} {D1 D2 : Ends} {K : Fl → Store → Res Fl} {σ' : L2.St}, D1.rt = D2.rt → (∀ v O, K (.rt v) O = .ok (.rt v) O) → σ'.length = N.length →
              Pst L.F w O H ((hnd L.pg Hs c p O1).bind K) (RS L.F D1) (fun _ _ _ => False) → SOk L.F w' O1 H' → Le w O H w' O1 H' → ExR L.F w' O1.length H' c p cls dd → wN X.K (fun _ _ _ _ => False) D2 l cls dd σ' H' := fun i b hs hx f hi hr hsu huse eH => by
          obtain ⟨l, hl, hw⟩ := hds_ok ok hN hK hm hsc hgd hu hr
          obtain ⟨ne', mgx⟩ := ok.excN x i b hi
          subst eH
          refine ⟨_, .cons (h := ⟨.ref (L.F.ea i), at_, fun a cls d => tHx L.F a cls d at_ f hx⟩) ⟨gl, (nmOk_1 hg2).1, .inl (by rw [hm]; exact mgx)⟩ hat (fun a oe cls d pn hz hf => hsu a oe cls d pn hz hf) hl, fun {w w' O O1 H H' c p cls dd D1 D2 K σ'} hD hK2 hlen z s l2 e => ?_⟩
          obtain ⟨e1, e2, e3⟩ := id e
          rw [hnd_cons] at z
          refine ⟨L.pg.exm c i, by rw [hK, e2]; exact ok.exm c i e1 ne', fun hb a ha => ?_, fun hb => ?_⟩
          · rw [hb] at z
            dsimp only at z
            cases hv : hxV p O1 hx with
            | none => rw [hv] at z; exact z.bad.elim
            | some v =>
              rw [hv] at z
              have z1 : Pst L.F w O H (K (.rt v) O1) (RS L.F D1) (fun _ _ _ => False) := z
              rw [hK2] at z1
              refine ⟨w', O1, c, p, v, s, e, slotAt_N fun i' hi' => ?_, fun hu2 => huse hu2 c e1 hb, hv, fun w3 H3 x3 s3 l3 r3 => ?_⟩
              · subst hi'
                cases nm with
                | none => exact (show False from hat).elim
                | some y =>
                  have q := (List.getElem?_eq_some_iff.mp hat.1).1
                  rw [hlen, ← hN]; exact q
              · rw [endsN_rt, ← hD]
                exact z1 w3 H3 s3 (l2.trans l3) x3 r3
          · rw [hb] at z
            exact hw (D1 := D1) hD hK2 hlen z s l2 e
        split at h
        · rename_i i hs hi hr
          split at h
          · rename_i hx hhx
            cases h
            exact core i true hs hx _ hi hr (fun a oe cls d pn hz hf => hx_pe hK hsc (by rw [hm]; exact ok.bi _ (by simp)) hgd hu hz hf (fun y z => nmAt_ix hat z) hhx) (fun _ c h1 h2 => ok.xfH x i c hi h1 h2) rfl
          · cases h
        · rename_i i hs hi hr
          split at h
          · rename_i hx hhx
            cases h
            have un := usesX_none hhx
            refine core i false hs hx Str.empty hi hr (fun a oe cls d pn hz hf => ?_) (fun q => by rw [un] at q; cases q) rfl
            exact hx_pe hK hsc (by rw [hm]; exact ok.bi _ (by simp)) hgd hu hz hf (n := none) (fun y z => nomatch z) hhx
          · cases h
        · cases h
      · cases h
    · cases h
theorem tak_ok (ok : LwOk L) {d i : Nat} (fn : L.Fns d) {x a : Str} {hds : List ExceptHandler} {h0 : ExceptHandler} {rest : List Stmt} {scope : Scope} {D : Dk} {n : Nat} {Hs : Hds} {cdv : Value} {p1 p2 p3 p4 : Pos}
    (hFn : L.pg.fns[i]? = some ⟨1, D.B.N.length, .cons (.tr (.cons (.ex .callT) .nil) Hs) (erSs (zz L.nm D) (erS L.nm D n) rest), D.B.fz, false, D.keep⟩) (hH : erHds L.nm D.B.N scope (h0 :: hds) = some Hs)
    (hS : FnScope D.B.N [a] scope) (hsc : D.B.sc = scope) (hcd : cdv = .ref (codeA L.F.K (L.F.fa i))) (htb : TbAt L D.B.tb (L.F.fa i)) (hlb : LbAt L D.B.lb (L.F.fa i) x)
    (X : Cx) (e1 : X.prog = L.P) (e2 : X.w = L.w) (e3 : X.K = L.F.K) (e4 : X.mg = L.mg) (e5 : X.base = L.base) (q : Str) :
    GivesM (4 * d + 3) X D.B.N x scope (L.F.fa i) cdv (.Try [.Expr (.Call (.Name a p1) [] [] p2) p3] (h0 :: hds) [] [] p4 :: rest) a q (TTm L.F (callLAt L.pg (d + 1) i)) := by
  intro f c s H Q tl hr act hco ⟨w, O, th, sk, hth, z⟩
  rw [e1, e2, e3, e4, e5] at act ⊢
  have ec : callLAt L.pg (d + 1) i th O = runF ⟨L.pg, D.B.fz, callAt L.pg d, callLAt L.pg d, th⟩ ⟨1, D.B.N.length, .cons (.tr (.cons (.ex .callT) .nil) Hs) (erSs (zz L.nm D) (erS L.nm D n) rest), D.B.fz, false, D.keep⟩ (List.replicate D.B.N.length none) O := by
    show (match L.pg.fns[i]? with
      | some F => match Nat.beq F.np 1 && !F.va with
        | true => runF ⟨L.pg, F.fz, callAt L.pg d, callLAt L.pg d, th⟩ F (List.replicate F.ns none) O
        | false => .bad
      | none => .bad) = _
    rw [hFn]
    rfl
  rw [ec] at z
  have z1 := run_pst sk z
  generalize hC : (⟨L.pg, D.B.fz, callAt L.pg d, callLAt L.pg d, th⟩ : Ctx) = C at z1
  have cpg : C.pg = L.pg := by rw [← hC]
  have cth : C.th = th := by rw [← hC]
  obtain ⟨l, hl, hw⟩ := hds_ok ok (X := (cxOf C8.CX0 L.P L.w L.F.K L.mg L.base D.B.N x scope (L.F.fa i) cdv X.A X.stack s H C8.E0).nox) (N := D.B.N) (sc := scope) rfl rfl rfl rfl hr.gd (by have := hr.un; show (X.A.deeper (envOfC x scope s.heap.objs.size (L.F.fa i) cdv)).units + 200 < cLine; omega) hH
  have fs : FitS L C d D.B (cxOf C8.CX0 L.P L.w L.F.K L.mg L.base D.B.N x scope (L.F.fa i) cdv X.A X.stack s H C8.E0).nox (fun _ _ _ => False) := by
    have ft := fit_cx (L := L) (d := d) (C := C) (D := D) (x := x) (qual := x) (scope := scope) (f := L.F.fa i) (cdv := cdv) (A := X.A) (outer := X.stack) (s0 := s) (H0 := H) (E := C8.E0) (CX := C8.CX0) (by rw [← hC]; exact ⟨rfl, rfl, rfl, rfl⟩) hsc hS.nd hcd htb hlb hr
    exact ⟨⟨ft.p, ft.w, ft.K, ft.mg, ft.base, ft.pg, ft.call, ft.fz, ft.N, ft.sc, ft.nd, ft.calm, ft.callL, ft.room, ft.tb, ft.lb⟩, fun _ => rfl, takes_none5, PassesOwn.never⟩
  have lenσ : (L2.start D.B.N [V.ref f]).length = D.B.N.length := by
    unfold L2.start
    have := congrArg List.length hS.pre
    simp at this ⊢
    omega
  refine ⟨_, pss_cons (try_n (X := (cxOf C8.CX0 L.P L.w L.F.K L.mg L.base D.B.N x scope (L.F.fa i) cdv X.A X.stack s H C8.E0).nox) (l := l)
    (tb := fun W D1 σ H => ∃ Ech : XK, (∀ cls d σ' H', σ'.length = D.B.N.length → Ech cls d H' → W cls d σ' H') ∧ σ.length = D.B.N.length ∧ σ[0]? = some (some (.ref f)) ∧ H c = some (LamX.CodeO c q) ∧ tl Ech H fun _ H1 => D1.nx σ H1)
    rfl rfl hS.nd takes_none5 (fun W pn xe tk _ => ?_) hl) (s_ss (fun _ _ _ h => s_zz ok fs fn h) fun st => sndS ok n C d _ _ fs fn st), ?_⟩
  · refine ⟨fun pins s' σ H' D I h' => ?_⟩
    obtain ⟨Ech, hW, g0, g1, g2, g3⟩ := h'
    have hp := act W pn xe Ech p1 p2 tk hW
    have hq := pss_one (ps_expr (pos := p3) hp (no_swap rfl))
    exact hq.run pins s' σ H' D I ⟨g0, g1, g2, g3⟩
  · have eb : ∀ ρ, exs C (.cons (.tr (.cons (.ex .callT) .nil) Hs) (erSs (zz L.nm D) (erS L.nm D n) rest)) ρ O = (match th O with
        | .ok _ O1 => exs C (erSs (zz L.nm D) (erS L.nm D n) rest) ρ O1
        | .exc c p O1 => (hnd L.pg Hs c p O1).bind fun f O1 => match f with
          | .nx ρ1 => exs C (erSs (zz L.nm D) (erS L.nm D n) rest) ρ1 O1
          | f => .ok f O1
        | .bad => .bad) := fun ρ => by
      have e9 : ev C .callT ρ O = th O := by rw [← cth]; rfl
      show (ex C (.tr (.cons (.ex .callT) .nil) Hs) ρ O).bind _ = _
      have e10 : ex C (.tr (.cons (.ex .callT) .nil) Hs) ρ O = (match exs C (.cons (.ex .callT) .nil) ρ O with
        | .ok f O1 => .ok f O1
        | .exc c p O1 => hnd C.pg Hs c p O1
        | .bad => .bad) := rfl
      have e11 : exs C (.cons (.ex .callT) .nil) ρ O = (((ev C .callT ρ O).bind fun _ O1 => Res.ok (Fl.nx ρ) O1).bind fun f O1 => match f with
        | .nx ρ1 => .ok (.nx ρ1) O1
        | f => .ok f O1) := rfl
      rw [e10, e11, e9, cpg]
      cases th O <;> rfl
    have z2 : Pst L.F w O H _ _ _ := z1
    rw [eb] at z2
    refine ⟨fun cls dd H' => ∃ c p O1 w', th O = .exc c p O1 ∧ SOk L.F w' O1 H' ∧ Le w O H w' O1 H' ∧ ExR L.F w' O1.length H' c p cls dd, fun cls dd σ' H' hlen ⟨c, p, O1, w', t1, t2, t3, t4⟩ => ?_, lenσ, ?_, hco, hth _ _ _ w O sk Le.refl ?_⟩
    · rw [t1] at z2
      refine hw (D1 := { nx := fun _ H' => Q .non H', rt := Q }) (K := fun f O1 => match f with
          | .nx ρ1 => exs C (erSs (zz L.nm D) (erS L.nm D n) rest) ρ1 O1
          | f => .ok f O1) rfl (fun v O => rfl) hlen z2 t2 t3 t4
    · unfold L2.start
      rfl
    · cases ht : th O with
      | ok v O1 =>
        rw [ht] at z2
        intro w' H' s' l' x' rx
        exact ⟨w', List.replicate D.B.N.length none, O1, s', rok_none lenσ, z2.after l'⟩
      | exc c p O1 =>
        intro w' H' s' l' cls dd he
        exact ⟨c, p, O1, w', rfl, s', l', he⟩
      | bad =>
        rw [ht] at z2
        exact z2
end
end Mn
end

section
set_option Elab.async false
set_option linter.all false
set_option maxRecDepth 100000
set_option maxHeartbeats 400000
/-! M4a: a law's data, what a fragment of the heap must hold of it, and that then all defs keep their promises. -/
namespace Mn
open PySem PySem.Spec PyProof.Rows L2

/-- where a def stands: a global, a class's method, behind a property -/
inductive Wh where
  | glo (x : Str) | mth (C m : Str) | prp (C m : Str)
def Wh.ad (K : PySem.W.Frag) : Wh → Addr
  | .glo x => He.ga K x
  | .mth C m => He.ma K (He.ga K C) m
  | .prp C m => match PySem.W.recIn K (He.ma K (He.ga K C) m) "property" with
    | some (.ref g :: _) => g
    | _ => 0
def Wh.key : Wh → Str × Option Str
  | .glo x => (x, none)
  | .mth C m => (C, some m)
  | .prp C m => (C, some m)
structure Df where
  wh : Wh
  name : Str
  qual : Str
  st : Stmt
def Df.a (d : Df) : He5.DefA := ⟨fun K => d.wh.ad K, d.name, d.qual, defArgs d.st, defBody d.st, defScope d.st, [], []⟩

/-! ### the interpreter's def of a def -/
def fnScB (N P : List Str) (sc : Scope) : Bool := (match sc.kind with | .function => true | _ => false) && !sc.isCoroutine && !sc.isGenerator && decide N.Nodup && decide (N.take P.length = P) && (P.all fun x => isLoc sc x) && (sc.names.all fun y => match y.2 with | .free => false | _ => true)
theorem fnScB_ok {N P : List Str} {sc : Scope} (h : fnScB N P sc = true) : FnScope N P sc := by
  unfold fnScB at h
  simp only [Bool.and_eq_true, Bool.not_eq_true', List.all_eq_true, decide_eq_true_eq] at h
  obtain ⟨⟨⟨⟨⟨⟨h1, h2⟩, h3⟩, h4⟩, h5⟩, h6⟩, h7⟩ := h
  refine ⟨?_, h2, h3, h4, h5, fun x hx => ?_, fun y hy e => ?_⟩
  · split at h1
    · assumption
    · cases h1
  · have q := h6 x hx
    unfold isLoc lookK at q
    split at q
    · exact .inl (by assumption)
    · exact .inr (by assumption)
    · cases q
  · have q := h7 y hy
    rw [e] at q
    cases q
def bad1 : Fn := ⟨0, 0, .cons .bad .nil, true, false, false⟩
def dkOf (nm : Nm) (d : Df) : Dk := ⟨⟨slotsOf (defScope d.st) (defBody d.st), defScope d.st, !decide (d.wh.key ∈ nm.opens), decide (d.wh.key ∈ nm.tabs), decide (d.wh.key ∈ nm.lams)⟩, (defBody d.st).flatMap (mutS nm 60), decide (d.wh.key.1 ∈ nm.keeps), 39⟩
/-- a def with plain parameters, or with all in a tuple -/
def fnP (nm : Nm) (d : Df) : Fn := match defArgs d.st with
  | ⟨[], as, none, [], [], none, []⟩ => if fnScB (dkOf nm d).B.N (as.map (·.arg)) (defScope d.st) = true then ⟨as.length, (dkOf nm d).B.N.length, erSs (zz nm (dkOf nm d)) (erS nm (dkOf nm d) 60) (defBody d.st), (dkOf nm d).B.fz, false, (dkOf nm d).keep⟩ else bad1
  | ⟨[], [], some va, [], [], none, []⟩ => if fnScB (dkOf nm d).B.N [va.arg] (defScope d.st) = true then ⟨0, (dkOf nm d).B.N.length, erSs (zz nm (dkOf nm d)) (erS nm (dkOf nm d) 60) (defBody d.st), (dkOf nm d).B.fz, true, (dkOf nm d).keep⟩ else bad1
  | _ => bad1
/-- a def that takes a lambda -/
def fnT (nm : Nm) (d : Df) : Fn := match defArgs d.st, defBody d.st with
  | ⟨[], [ag], none, [], [], none, []⟩, .Try [.Expr (.Call (.Name a _) [] [] _) _] (h0 :: hds) [] [] _ :: rest =>
    if a = ag.arg ∧ nmOk a = true ∧ fnScB (dkOf nm d).B.N [ag.arg] (defScope d.st) = true ∧ isLoc (defScope d.st) a = true then (match erHds nm (dkOf nm d).B.N (defScope d.st) (h0 :: hds) with
      | some H => ⟨1, (dkOf nm d).B.N.length, .cons (.tr (.cons (.ex .callT) .nil) H) (erSs (zz nm (dkOf nm d)) (erS nm (dkOf nm d) 60) rest), (dkOf nm d).B.fz, false, (dkOf nm d).keep⟩
      | none => bad1) else bad1
  | _, _ => bad1
def isTak (nm : Nm) (d : Df) : Bool := match d.wh with
  | .glo x => decide (x ∈ nm.takers)
  | _ => false
def fnE (nm : Nm) (d : Df) : Fn := match isTak nm d with
  | true => fnT nm d
  | false => fnP nm d

theorem fnR_bad {L : Lw} {d i : Nat} (h : ∀ vs O, callAt L.pg d i vs O = .bad) {k : Nat} {f : Addr} : FnR L.P L.w L.F.K L.mg L.base (L2.CX L.P L.w) k f (spF L.F (callAt L.pg d i)) := fun A outer s H us vs Q E _ _ _ ⟨w, O, ws, _, _, z⟩ => by
  rw [h] at z
  exact z.bad.elim
theorem call_succ {L : Lw} {d i : Nat} {F : Fn} (h : L.pg.fns[i]? = some F) (vs : List Val) (O : Store) : callAt L.pg (d + 1) i vs O = (match startEnv F vs with
    | some ρ => runF ⟨L.pg, F.fz, callAt L.pg d, callLAt L.pg d, fun _ => .bad⟩ F ρ O
    | none => .bad) := by
  show (match L.pg.fns[i]? with
    | some F => match startEnv F vs with
      | some ρ => runF ⟨L.pg, F.fz, callAt L.pg d, callLAt L.pg d, fun _ => .bad⟩ F ρ O
      | none => .bad
    | none => .bad) = _
  rw [h]
theorem bad_bad {L : Lw} {d i : Nat} (h : L.pg.fns[i]? = some bad1) (vs : List Val) (O : Store) : callAt L.pg (d + 1) i vs O = .bad := by
  rw [call_succ h]
  split <;> rfl
/-- what a taker's text gives -/
theorem fnT_cases (nm : Nm) (d : Df) : fnT nm d = bad1 ∨ ∃ (ag : Arg) (a : Str) (p1 p2 p3 p4 : Pos) (h0 : ExceptHandler) (hds : List ExceptHandler) (rest : List Stmt) (H : Hds), defArgs d.st = ⟨[], [ag], none, [], [], none, []⟩ ∧
    defBody d.st = .Try [.Expr (.Call (.Name a p1) [] [] p2) p3] (h0 :: hds) [] [] p4 :: rest ∧ a = ag.arg ∧ nmOk a = true ∧ fnScB (dkOf nm d).B.N [ag.arg] (defScope d.st) = true ∧ isLoc (defScope d.st) a = true ∧ erHds nm (dkOf nm d).B.N (defScope d.st) (h0 :: hds) = some H ∧
    fnT nm d = ⟨1, (dkOf nm d).B.N.length, .cons (.tr (.cons (.ex .callT) .nil) H) (erSs (zz nm (dkOf nm d)) (erS nm (dkOf nm d) 60) rest), (dkOf nm d).B.fz, false, (dkOf nm d).keep⟩ := by
  generalize hx : fnT nm d = x
  unfold fnT at hx
  split at hx
  · rename_i ag a p1 p2 p3 h0 hds p4 rest h1 h2
    split at hx
    · rename_i hc
      split at hx
      · rename_i H hH
        exact .inr ⟨ag, a, p1, p2, p3, p4, h0, hds, rest, H, h1, h2, hc.1, hc.2.1, hc.2.2.1, hc.2.2.2, hH, hx.symm⟩
      · exact .inl hx.symm
    · exact .inl hx.symm
  · exact .inl hx.symm
theorem isLoc_vis {sc : Scope} {a : Str} (h : isLoc sc a = true) : Vis sc a := by
  unfold isLoc lookK at h
  unfold Vis
  split at h <;> simp_all
theorem fns_all {L : Lw} (ok : LwOk L) {defs : List Df} (hn : L.F.nf = defs.length) (hf : L.pg.fns = defs.map (fnE L.nm)) (hk : L.nm.fns = defs.map (·.wh.key))
    (htk : ∀ (i : Nat) (d : Df), defs[i]? = some d → isTak L.nm d = true → d.qual = d.name ∧ d.wh.key.1 = d.name ∧ (fnT L.nm d = bad1 → False))
    (hd : ∀ (i : Nat) (d : Df), defs[i]? = some d → ∃ fd, FunD L.F.K d.name d.qual (defArgs d.st) (defBody d.st) (defScope d.st) [] [] (L.F.fa i) fd)
    (ht : ∀ (i : Nat) (d : Df), defs[i]? = some d → TbAt L (decide (d.wh.key ∈ L.nm.tabs)) (L.F.fa i)) (hl : ∀ (i : Nat) (d : Df), defs[i]? = some d → LbAt L (decide (d.wh.key ∈ L.nm.lams)) (L.F.fa i) d.qual) : ∀ d, L.Fns d
  | 0 => ⟨fun i hi => fnR_bad fun vs O => rfl, fun x i hx hi => by
    have g := ixOf_get hi
    rw [hk, List.getElem?_map] at g
    cases hdf : defs[i]? with
    | none => rw [hdf] at g; cases g
    | some df =>
      rw [hdf] at g
      have hkey : df.wh.key = (x, none) := Option.some.inj g
      have tk : isTak L.nm df = true := by
        unfold isTak
        cases hw : df.wh with
        | glo y =>
          rw [hw] at hkey
          have : y = x := congrArg Prod.fst hkey
          subst this
          simpa using hx
        | mth C m => rw [hw] at hkey; cases congrArg Prod.snd hkey
        | prp C m => rw [hw] at hkey; cases congrArg Prod.snd hkey
      obtain ⟨t1, t2, t3⟩ := htk i df hdf tk
      have ex : x = df.name := by rw [← t2, hkey]
      rcases fnT_cases L.nm df with h | ⟨ag, a, p1, p2, p3, p4, h0, hds, rest, H, e1, e2, e3, e4, e5, e6, e7, e8⟩
      · exact (t3 h).elim
      obtain ⟨fd, F⟩ := hd i df hdf
      have Fb := F
      rw [e1, t1, ← ex] at F
      obtain ⟨oc, od, dV, kV, doc, pm, an, cdv, ct, osl, rfl, lk, hcd, _, _⟩ := id F.ex
      subst e3
      have S := fnScB_ok e5
      refine ⟨ag.arg, (dkOf L.nm df).B.N, cdv, _, defScope df.st, ⟨⟨_, _, _, _, _, _, _, _, _, _, lk, FunD.bindsN F fun kV doc pm an cdv ct us hl => bind_plain (as := [ag]) (by simp) hl⟩, hcd, S, ?_, isLoc_vis e6, (nmOk_1 e4).1, (nmOk_1 e4).2⟩, fun X _ _ _ _ _ q f c s H Q tl hr act hco ⟨w, O, th, sk, hth, z⟩ => ?_⟩
      · have q := S.pre
        have := congrArg (fun l => l[0]?) q
        simpa using this
      · exact (show False from z).elim⟩
  | d + 1 => by
    have fn := fns_all ok hn hf hk htk hd ht hl d
    refine ⟨fun i hi => ?_, fun x i hx hi => ?_⟩
    · rw [hn] at hi
      have e := List.getElem?_eq_getElem hi
      generalize defs[i] = df at e
      obtain ⟨fd, F⟩ := hd i df e
      have e2 : L.pg.fns[i]? = some (fnE L.nm df) := by rw [hf, List.getElem?_map, e]; rfl
      cases tk : isTak L.nm df with
      | true =>
        have e3 : fnE L.nm df = fnT L.nm df := by unfold fnE; rw [tk]
        rw [e3] at e2
        refine fnR_bad fun vs O => ?_
        rcases fnT_cases L.nm df with h | ⟨ag, a, p1, p2, p3, p4, h0, hds, rest, H, _, _, _, _, _, _, _, e8⟩
        · rw [h] at e2
          exact bad_bad e2 vs O
        · rw [e8] at e2
          rw [call_succ e2]
          split <;> rfl
      | false =>
        have e3 : fnE L.nm df = fnP L.nm df := by unfold fnE; rw [tk]
        rw [e3] at e2
        unfold fnP at e2
        split at e2
        · rename_i as ha
          rw [ha] at F
          split at e2
          · rename_i hs
            refine fn_lvl ok fn (D := dkOf L.nm df) F e2 (fnScB_ok hs) rfl (ht i df e) (hl i df e) ?_
            refine FunD.bindsN F fun kV doc pm an cdv ct us hl => bind_plain ?_ hl
            have S := fnScB_ok hs
            rw [← S.pre]
            exact S.nd.sublist (List.take_sublist _ _)
          · exact fnR_bad (bad_bad e2)
        · rename_i va ha
          rw [ha] at F
          split at e2
          · rename_i hs
            exact fn_va ok fn (D := dkOf L.nm df) F e2 (fnScB_ok hs) rfl (ht i df e) (hl i df e)
          · exact fnR_bad (bad_bad e2)
        · exact fnR_bad (bad_bad e2)
    · have g := ixOf_get hi
      rw [hk, List.getElem?_map] at g
      cases hdf : defs[i]? with
      | none => rw [hdf] at g; cases g
      | some df =>
        rw [hdf] at g
        have hkey : df.wh.key = (x, none) := Option.some.inj g
        have tk : isTak L.nm df = true := by
          unfold isTak
          cases hw : df.wh with
          | glo y =>
            rw [hw] at hkey
            have : y = x := congrArg Prod.fst hkey
            subst this
            simpa using hx
          | mth C m => rw [hw] at hkey; cases congrArg Prod.snd hkey
          | prp C m => rw [hw] at hkey; cases congrArg Prod.snd hkey
        obtain ⟨t1, t2, t3⟩ := htk i df hdf tk
        have ex : x = df.name := by rw [← t2, hkey]
        rcases fnT_cases L.nm df with h | ⟨ag, a, p1, p2, p3, p4, h0, hds, rest, H, e1, e2, e3, e4, e5, e6, e7, e8⟩
        · exact (t3 h).elim
        obtain ⟨fd, F⟩ := hd i df hdf
        have lbq := hl i df hdf
        rw [e1, e2, t1, ← ex] at F
        rw [t1, ← ex] at lbq
        obtain ⟨oc, od, dV, kV, doc, pm, an, cdv, ct, osl, rfl, lk, hcd, _, _⟩ := id F.ex
        subst e3
        have S := fnScB_ok e5
        have eF : L.pg.fns[i]? = some (fnT L.nm df) := by
          rw [hf, List.getElem?_map, hdf]
          show some (fnE L.nm df) = _
          unfold fnE
          rw [tk]
        rw [e8] at eF
        refine ⟨ag.arg, (dkOf L.nm df).B.N, cdv, _, defScope df.st, ⟨⟨_, _, _, _, _, _, _, _, _, _, lk, FunD.bindsN F fun kV doc pm an cdv ct us hl => bind_plain (as := [ag]) (by simp) hl⟩, hcd, S, ?_, isLoc_vis e6, (nmOk_1 e4).1, (nmOk_1 e4).2⟩, fun X x1 x2 x3 x4 x5 q => ?_⟩
        · have q := S.pre
          have := congrArg (fun l => l[0]?) q
          simpa using this
        · have G := tak_ok ok fn (D := dkOf L.nm df) (n := 60) (x := x) (a := ag.arg) (cdv := cdv) (p1 := p1) (p2 := p2) (p3 := p3) (p4 := p4) eF e7 S rfl (codeA_eq lk hcd) (ht i df hdf) lbq X x1 x2 x3 x4 x5 q
          exact fun f c s H Q tl hr act hco hT => G f c s H Q tl (hr.mono (by omega)) act hco hT
end Mn
end

section
set_option Elab.async false
set_option linter.all false
set_option maxRecDepth 100000
set_option maxHeartbeats 400000
/-! M4b: what is asked of the fragment K, by one Bool, and that LwOk follows. -/
namespace Mn
open PySem PySem.Spec PyProof.Rows L2

/-- a constant of the program -/
inductive Cv where
  | i (j : Int) | s (t : Str)
def Cv.val : Cv → Val
  | .i j => .int j
  | .s t => .str t
def strB (K : PySem.W.Frag) (x t : Str) : Bool := match PySem.W.nsIn K mainGlobals x with
  | some (some (.str u _)) => decide (u = t)
  | _ => false
structure Ld where
  nm : Nm
  defs : List Df
  cls : List Cls
  consI : List Cv
  exm : Nat → Nat → Bool
  /-- attributes: of class c, number a, name, where -/
def Ld.pg (l : Ld) : Pg := ⟨l.defs.map (fnE l.nm), l.cls, l.consI.map Cv.val, l.exm⟩
def caOf (l : Ld) (K : PySem.W.Frag) (c : Nat) : Addr := He.ga K (l.nm.cls.getD c Str.empty)
def faOf (l : Ld) (K : PySem.W.Frag) (i : Nat) : Addr := match l.defs[i]? with | some d => d.wh.ad K | none => 0
def eaOf (l : Ld) (K : PySem.W.Frag) (c : Nat) : Addr := match l.nm.excs[c]? with | some x => He.ga K x.1 | none => 0
def fxOf (l : Ld) (K : PySem.W.Frag) (T : List (Addr × Option Str)) : Fx := ⟨K, l.defs.length, faOf l K, caOf l K, eaOf l K, l.nm.excs.length, T, fun c => (l.nm.xfl.getD c (Str.empty, 0)).1⟩
def lwOf (l : Ld) (P : Program) (w : World) (base : Heap) (mg : Str → Option Value) (K : PySem.W.Frag) (T : List (Addr × Option Str)) : Lw := ⟨P, w, base, mg, fxOf l K T, l.nm, l.pg⟩

def dec1 (a b : Option (Option Value)) : Bool := decide (a = b)
def dec0 (a b : Option Value) : Bool := decide (a = b)
def tysOf (l : Ld) : List Ty := [.int, .bool, .str, .tuple, .list, .dict] ++ (List.range l.nm.cls.length).map .cls
def btNames : List String := ["NoneType", "bool", "int", "str", "tuple", "list", "dict"]
def biNames : List Str := ["range", "enumerate", "zip", "isinstance", "next", "int", "bool", "str", "tuple", "list", "dict", "len", "set", "repr", "super"]
def sclsB (K : PySem.W.Frag) (C : Addr) : Bool := PySem.W.plainGet K C Str.empty && PySem.W.isClsIn K C && PySem.W.plainOver K C && dec1 (PySem.W.findIn K (.ref C) "__setattr__") (some (some (.builtin "object.__setattr__")))
def sisiB (K : PySem.W.Frag) (C : Addr) : Bool := dec1 (PySem.W.findIn K (.ref C) "__class__") (some (some (.builtin "object.__class__"))) && dec1 (PySem.W.specialIn K (.builtin "object.__class__") "__get__") (some (some (.builtin "getset_descriptor.__get__"))) &&
  decide (PySem.W.takesIn K (.builtin "object.__class__") = some true) && decide (PySem.W.mroIn K C (.type "object") = some true)
def slot1B (K : PySem.W.Frag) (C : Addr) (f : Str) (i : Nat) : Bool := match PySem.W.findIn K (.ref C) f with
  | some (some (.ref p)) => dec1 (PySem.W.specialIn K (.ref p) "__get__") (some (some (.builtin "member_descriptor.__get__"))) && decide (PySem.W.takesIn K (.ref p) = some true) && dec0 (PySem.W.typeIn K (.ref p)) (some (.type "member_descriptor")) && decide (PySem.W.slotIn K p C = some i) && decide (i < 1000)
  | _ => false
def propB (K : PySem.W.Frag) (C : Addr) (x : Str) (g : Addr) : Bool := match PySem.W.findIn K (.ref C) x with
  | some (some (.ref p)) => dec1 (PySem.W.specialIn K (.ref p) "__get__") (some (some (.builtin "property.__get__"))) && decide (PySem.W.takesIn K (.ref p) = some true) && (match PySem.W.recIn K p "property" with
    | some (.ref q :: _) => decide (q = g)
    | _ => false)
  | _ => false
def mulB (K : PySem.W.Frag) (C g : Addr) : Bool := PySem.W.selfFirst K C && dec1 (PySem.W.findIn K (.ref C) "__mul__") (some (some (.ref g))) && PySem.W.isFn K (.ref g) && (match PySem.W.findIn K (.ref C) "__rmul__" with
    | some none => true
    | some (some (.ref _)) => true
    | _ => false) && (PySem.W.findIn K (.type "int") "__mul__").isSome && (PySem.W.findIn K (.type "int") "__rmul__").isSome && decide (PySem.W.subIn K (.type "int") (.ref C) = some false)
def clsIx (l : Ld) : List Nat := List.range l.nm.cls.length
def conB (l : Ld) (K : PySem.W.Frag) : Bool := (List.range l.nm.cons.length).all fun i => match l.nm.cons[i]?, l.consI[i]? with
  | some x, some (.i j) => (He.Fa.int x j).ok K
  | some x, some (.s t) => strB K x t
  | _, _ => false
def fnsB (l : Ld) (K : PySem.W.Frag) : Bool := l.defs.all fun d => match d.wh with
  | .glo x => (He.Fa.glo x).ok K
  | _ => true
def clsB (l : Ld) (K : PySem.W.Frag) : Bool := (clsIx l).all fun c => match l.nm.cls[c]?, l.cls[c]? with
  | some x, some k => (He.Fa.glo x).ok K && PySem.W.makesIn K (caOf l K c) && dec1 (PySem.W.findIn K (.ref (caOf l K c)) "__init__") (some (some (.ref (faOf l K k.init)))) && PySem.W.isFn K (.ref (faOf l K k.init)) && PySem.W.keepIn K (.ref (caOf l K c)) &&
      decide (k.init < l.defs.length) && sclsB K (caOf l K c) && sisiB K (caOf l K c) && (match k.mul with | none => true | some g => decide (g < l.defs.length) && mulB K (caOf l K c) (faOf l K g))
  | _, _ => false
def kitB (l : Ld) (K : PySem.W.Frag) : Bool := (tysOf l).all fun T => (btNames.all fun n => decide (PySem.W.kitOne K (.type n) ((fxOf l K []).tyv T) = some (tyN T n))) && (clsIx l).all fun c => decide (PySem.W.kitOne K (.ref (caOf l K c)) ((fxOf l K []).tyv T) = some (tyC T c))
def bltB1 (K : PySem.W.Frag) (x : Str) : Bool := match bltOf x with
  | some b => (dec1 (PySem.W.nsIn K mainGlobals x) (some (some b.fv)) && (match b.fv with | .builtin _ => true | _ => false)) || (dec1 (PySem.W.nsIn K mainGlobals x) (some none) && (dec0 (bootBuiltins x) (some b.fv) && decide (x ≠ "__name__")))
  | none => true
def bltsB (l : Ld) (K : PySem.W.Frag) : Bool := l.nm.blts.all (bltB1 K)
def biB (K : PySem.W.Frag) : Bool := biNames.all fun x => dec1 (PySem.W.nsIn K mainGlobals x) (some none)
def attB (l : Ld) (K : PySem.W.Frag) : Bool := (List.range l.nm.atts.length).all fun a => (clsIx l).all fun c => match l.nm.atts[a]?, l.cls[c]? with
  | some x, some k => (match k.ats.lookup a with
    | some (.slot i) => slot1B K (caOf l K c) x i
    | some (.prop g) => decide (g < l.defs.length) && propB K (caOf l K c) x (faOf l K g)
    | none => true)
  | _, _ => false
def xfA (l : Ld) (i : Nat) : Str × Nat := l.nm.xfl.getD i (Str.empty, 0)
def excB (P : Program) (l : Ld) (K : PySem.W.Frag) : Bool := (List.range l.nm.excs.length).all fun i => match l.nm.excs[i]? with
  | some (x, b) => (He.Fa.glo x).ok K && (match b with | false => (He.Fa.exc x).ok K | true => xiChk P K (eaOf l K i) (xfA l i).1 (xfA l i).2)
  | none => false
def exmB (l : Ld) (K : PySem.W.Frag) : Bool := (List.range l.nm.excs.length).all fun i => (List.range l.nm.excs.length).all fun j => decide (PySem.W.exmOne K (.ref (eaOf l K i)) (.ref (eaOf l K j)) = some (l.exm i j))
def xfT (l : Ld) : Bool := (List.range l.nm.excs.length).all fun i => (List.range l.nm.excs.length).all fun c => match l.nm.excs[i]?, l.nm.excs[c]? with
  | some (_, true), some (_, b) => !l.exm c i || (b && decide ((xfA l c).1 = (xfA l i).1))
  | _, _ => true
def stB (l : Ld) : Bool := decide (l.nm.fns = l.defs.map (·.wh.key)) && decide (l.cls.length = l.nm.cls.length) && decide (l.consI.length = l.nm.cons.length)
def exB (P : Program) (l : Ld) (K : PySem.W.Frag) : Bool := stB l && (conB l K && (fnsB l K && (clsB l K && (kitB l K && (bltsB l K && (biB K && (attB l K && (excB P l K && (exmB l K && xfT l)))))))))

theorem Str_ne_of {x y : Str} (h : decide (x ≠ y) = true) : x ≠ y := of_decide_eq_true h
section
variable {l : Ld} {P : Program} {w : World} {base h : Heap} {mg : Str → Option Value} {K : PySem.W.Frag} {T : List (Addr × Option Str)}
theorem caOf_get {x : Str} {c : Nat} (e : l.nm.cls[c]? = some x) : caOf l K c = He.ga K x := by
  unfold caOf
  rw [List.getD_eq_getElem?_getD, e]; rfl
theorem all_ix {n i : Nat} {p : Nat → Bool} (h : (List.range n).all p = true) (hi : i < n) : p i = true := List.all_eq_true.mp h i (List.mem_range.mpr hi)
theorem scls_ok {C : Addr} (h : sclsB K C = true) : SlX.SCls K C := by
  unfold sclsB dec1 at h
  simp only [Bool.and_eq_true, decide_eq_true_eq] at h
  exact ⟨h.1.1.1, h.1.1.2, h.1.2, h.2⟩
theorem sisi_ok {C : Addr} (h : sisiB K C = true) : SlX.SIsi K C := by
  unfold sisiB dec1 at h
  simp only [Bool.and_eq_true, decide_eq_true_eq] at h
  exact ⟨h.1.1.1, h.1.1.2, h.1.2, h.2⟩
theorem slot1_ok {C : Addr} {f : Str} {i : Nat} (h : slot1B K C f i = true) : ∃ p, SlX.Slot1 K C f p i := by
  unfold slot1B dec1 dec0 at h
  split at h
  · rename_i p hp
    simp only [Bool.and_eq_true, decide_eq_true_eq] at h
    exact ⟨p, hp, h.1.1.1.1, h.1.1.1.2, h.1.1.2, h.1.2, h.2⟩
  · cases h
theorem prop_ok {C g : Addr} {x : Str} (h : propB K C x g = true) : PropOk K C x g := by
  unfold propB dec1 at h
  split at h
  · rename_i p hp
    rw [Bool.and_eq_true, Bool.and_eq_true] at h
    obtain ⟨⟨h1, h2⟩, h3⟩ := h
    split at h3
    · rename_i q rest hq
      have e := of_decide_eq_true h3
      subst e
      exact ⟨p, hp, of_decide_eq_true h1, of_decide_eq_true h2, rest, hq⟩
    · cases h3
  · cases h
theorem mulB_ok {C g : Addr} (h : mulB K C g = true) : MulOk K C g := by
  unfold mulB dec1 at h
  simp only [Bool.and_eq_true, decide_eq_true_eq] at h
  obtain ⟨⟨⟨⟨⟨⟨h1, h2⟩, h3⟩, h4⟩, h5⟩, h6⟩, h7⟩ := h
  refine ⟨h1, h2, h3, ?_, Option.isSome_iff_exists.mp h5, Option.isSome_iff_exists.mp h6, h7⟩
  split at h4
  · rename_i q
    exact ⟨_, q, .inl rfl⟩
  · rename_i g' q
    exact ⟨_, q, .inr ⟨g', rfl⟩⟩
  · cases h4
theorem excIx_get {x : Str} {b : Bool} : ∀ {r : List (Str × Bool)} {c : Nat}, excIx r x = some (c, b) → r[c]? = some (x, b)
  | [], c, h => by simp [excIx] at h
  | (y, bb) :: r, c, h => by
    unfold excIx at h
    split at h
    · rename_i hd
      have hd := of_decide_eq_true hd
      cases h
      simp [hd]
    · split at h
      · rename_i j b2 hj
        cases h
        simpa using excIx_get hj
      · cases h
theorem lwOk (X : K.In h) (G : h.Ns mainGlobals mg) (kp : ∀ (i : Nat) (d : Df), l.defs[i]? = some d → PySem.W.keepIn K (.ref (d.wh.ad K)) = true) (e : exB P l K = true) (uni : ∀ P q, (P, none) ∈ T → (P, some q) ∉ T) : LwOk (lwOf l P w base mg K T) := by
  unfold exB at e
  simp only [Bool.and_eq_true] at e
  obtain ⟨e0, e1, e2, e3, e4, e5, e6, e7, e8, e9, e10⟩ := e
  unfold stB at e0
  simp only [Bool.and_eq_true, decide_eq_true_eq] at e0
  obtain ⟨⟨s1, s2⟩, s3⟩ := e0
  have hc : ∀ (c : Nat) (k : Cls), l.cls[c]? = some k → ∃ x, l.nm.cls[c]? = some x ∧ mg x = some (.ref (caOf l K c)) ∧ k.init < l.defs.length ∧ Mk K (caOf l K c) (faOf l K k.init) ∧ SlX.SCls K (caOf l K c) ∧ SlX.SIsi K (caOf l K c) ∧ (∀ g, k.mul = some g → g < l.defs.length ∧ MulOk K (caOf l K c) (faOf l K g)) := fun c k hk => by
    have hi : c < l.nm.cls.length := by rw [← s2]; exact (List.getElem?_eq_some_iff.mp hk).1
    have q := all_ix e3 hi
    rw [List.getElem?_eq_getElem hi, hk] at q
    dsimp only at q
    simp only [Bool.and_eq_true] at q
    obtain ⟨⟨⟨⟨⟨⟨⟨⟨q1, q2⟩, q3⟩, q4⟩, q5⟩, q6⟩, q7⟩, q8⟩, q9⟩ := q
    refine ⟨_, List.getElem?_eq_getElem hi, ?_, of_decide_eq_true q6, ⟨q2, of_decide_eq_true q3, q4, q5⟩, scls_ok q7, sisi_ok q8, ?_⟩
    · rw [caOf_get (List.getElem?_eq_getElem hi)]
      exact He.glo_ok X G q1
    · intro g hg
      rw [hg] at q9
      dsimp only at q9
      rw [Bool.and_eq_true] at q9
      exact ⟨of_decide_eq_true q9.1, mulB_ok q9.2⟩
  have xi2 : ∀ {x : Str} {c : Nat}, l.nm.excs[c]? = some (x, true) → XiOk P K (eaOf l K c) (xfA l c).1 (bsN (xfA l c).2).2.1 (bsN (xfA l c).2).2.2.1 (bsN (xfA l c).2).2.2.2 (bsN (xfA l c).2).1 ∧ L2.XfC K (eaOf l K c) ∧ PySem.W.findIn K (.ref (eaOf l K c)) (xfA l c).1 = some none := fun {x c} g => by
    have hi := (List.getElem?_eq_some_iff.mp g).1
    have q := all_ix e8 hi
    rw [g] at q
    dsimp only at q
    rw [Bool.and_eq_true] at q
    exact xiChk_ok q.2
  have xi : ∀ {x : Str} {c : Nat}, excIx (lwOf l P w base mg K T).nm.excs x = some (c, true) → XiOk P K (eaOf l K c) (xfA l c).1 (bsN (xfA l c).2).2.1 (bsN (xfA l c).2).2.2.1 (bsN (xfA l c).2).2.2.2 (bsN (xfA l c).2).1 ∧ L2.XfC K (eaOf l K c) ∧ PySem.W.findIn K (.ref (eaOf l K c)) (xfA l c).1 = some none := fun {x c} hx => xi2 (excIx_get hx)
  refine ⟨fun x i hx => ?_, fun x i hx => ?_, fun i hi => ?_, fun x i hx => ?_, fun Ty hT => ?_, fun x b hb hx => ?_, fun x hx => ?_, fun a i ha => ?_, fun i k g hk hx => ?_, fun x c b hx => ?_, fun c c' h1 h2 => ?_, fun x c hx => ?_, uni, fun x c hx => ?_, fun x i c hx h1 h2 => ?_⟩
  · have g := ixOf_get hx
    have hi := (List.getElem?_eq_some_iff.mp g).1
    have q := all_ix e1 hi
    rw [show l.nm.cons[i]? = some x from g] at q
    have hj : i < l.consI.length := by rw [s3]; exact hi
    have ec : (lwOf l P w base mg K T).pg.cons[i]? = some (l.consI[i]).val := by
      show (l.consI.map Cv.val)[i]? = _
      rw [List.getElem?_map, List.getElem?_eq_getElem hj]; rfl
    rw [List.getElem?_eq_getElem hj] at q
    rw [ec]
    generalize l.consI[i] = cv at q
    cases cv with
    | i j =>
      obtain ⟨t, ht⟩ := He.int_ok X G q
      exact ⟨.int j, _, .int j, rfl, ht, ⟨t, rfl⟩, fun _ _ _ => rfl⟩
    | s t =>
      have q : strB K x t = true := q
      unfold strB at q
      split at q
      · rename_i u tk hu
        have e := of_decide_eq_true q
        subst e
        exact ⟨.str u, _, .str u, rfl, PySem.W.mg_of X G hu, ⟨tk, rfl⟩, fun _ _ _ => rfl⟩
      · cases q
  · have g := ixOf_get hx
    rw [show (lwOf l P w base mg K T).nm.fns = l.defs.map (·.wh.key) from s1] at g
    rw [List.getElem?_map] at g
    cases hd : l.defs[i]? with
    | none => rw [hd] at g; cases g
    | some d =>
      rw [hd] at g
      have g : d.wh.key = (x, none) := Option.some.inj g
      have hi := (List.getElem?_eq_some_iff.mp hd).1
      refine ⟨hi, ?_⟩
      show mg x = some (.ref (faOf l K i))
      unfold faOf
      rw [hd]
      have q := List.all_eq_true.mp e2 d (List.mem_of_getElem? hd)
      cases hw : d.wh with
      | glo y =>
        rw [hw] at g q
        have : y = x := congrArg Prod.fst g
        subst this
        dsimp only
        rw [hw]
        exact He.glo_ok X G q
      | mth C m => rw [hw] at g; cases congrArg Prod.snd g
      | prp C m => rw [hw] at g; cases congrArg Prod.snd g
  · show PySem.W.keepIn K (.ref (faOf l K i)) = true
    unfold faOf
    have hi : i < l.defs.length := hi
    rw [List.getElem?_eq_getElem hi]
    exact kp i _ (List.getElem?_eq_getElem hi)
  · have g := ixOf_get hx
    have hi := (List.getElem?_eq_some_iff.mp g).1
    have hj : i < l.cls.length := by rw [s2]; exact hi
    obtain ⟨y, q1, q2, q3, q4, _⟩ := hc i _ (List.getElem?_eq_getElem hj)
    have : y = x := Option.some.inj (q1.symm.trans g)
    subst this
    exact ⟨_, List.getElem?_eq_getElem hj, q2, q3, q4⟩
  · have hm : Ty ∈ tysOf l := by
      unfold tysOf
      cases Ty with
      | cls c =>
        refine List.mem_append_right _ (List.mem_map.mpr ⟨c, List.mem_range.mpr ?_, rfl⟩)
        rw [← s2]
        exact hT c rfl
      | _ => exact List.mem_append_left _ (by simp)
    have q := List.all_eq_true.mp e4 Ty hm
    rw [Bool.and_eq_true] at q
    obtain ⟨q1, q2⟩ := q
    refine ⟨fun n hn => of_decide_eq_true (List.all_eq_true.mp q1 n hn), fun c k hk => ?_⟩
    have hi : c < l.nm.cls.length := by rw [← s2]; exact (List.getElem?_eq_some_iff.mp hk).1
    obtain ⟨_, _, _, _, _, r1, r2, _⟩ := hc c k hk
    exact ⟨of_decide_eq_true (all_ix q2 hi), r1, r2⟩
  · have q := List.all_eq_true.mp e5 x hx
    unfold bltB1 dec1 dec0 at q
    rw [hb] at q
    simp only [Bool.or_eq_true, Bool.and_eq_true, decide_eq_true_eq] at q
    rcases q with ⟨q1, q2⟩ | ⟨q1, q2, q3⟩
    · refine .inl ⟨PySem.W.mg_of X G q1, ?_⟩
      split at q2
      · exact ⟨_, by assumption⟩
      · cases q2
    · exact .inr ⟨PySem.W.mg_none_of X G q1, q2, q3⟩
  · exact PySem.W.mg_none_of X G (of_decide_eq_true (List.all_eq_true.mp e6 x hx))
  · have g := ixOf_get ha
    have hi := (List.getElem?_eq_some_iff.mp g).1
    have q := all_ix e7 hi
    have at_ : ∀ (c : Nat) (k : Cls), l.cls[c]? = some k → (match k.ats.lookup i with
        | some (.slot j) => slot1B K (caOf l K c) a j
        | some (.prop g) => decide (g < l.defs.length) && propB K (caOf l K c) a (faOf l K g)
        | none => true) = true := fun c k hk => by
      have hj : c < l.nm.cls.length := by rw [← s2]; exact (List.getElem?_eq_some_iff.mp hk).1
      have q2 := all_ix q hj
      rw [show l.nm.atts[i]? = some a from g, hk] at q2
      exact q2
    refine ⟨fun c k hk => (hc c k hk).elim fun _ z => z.2.2.2.2.1, fun c k j hk hl => ?_, fun c k g hk hl => ?_⟩
    · have q := at_ c k hk
      rw [hl] at q
      exact slot1_ok q
    · have q := at_ c k hk
      rw [hl] at q
      dsimp only at q
      rw [Bool.and_eq_true] at q
      exact ⟨of_decide_eq_true q.1, prop_ok q.2⟩
  · exact (hc i k hk).elim fun _ z => z.2.2.2.2.2.2 g hx
  · have g := excIx_get hx
    have hi := (List.getElem?_eq_some_iff.mp g).1
    refine ⟨hi, ?_⟩
    have q := all_ix e8 hi
    rw [show l.nm.excs[c]? = some (x, b) from g] at q
    dsimp only at q
    rw [Bool.and_eq_true] at q
    have ec : eaOf l K c = He.ga K x := by
      unfold eaOf
      rw [show l.nm.excs[c]? = some (x, b) from g]
    show mg x = some (.ref (eaOf l K c))
    rw [ec]
    exact He.glo_ok X G q.1
  · exact of_decide_eq_true (all_ix (all_ix e9 h1) h2)
  · have g := excIx_get hx
    have hi := (List.getElem?_eq_some_iff.mp g).1
    have q := all_ix e8 hi
    rw [show l.nm.excs[c]? = some (x, false) from g] at q
    dsimp only at q
    rw [Bool.and_eq_true] at q
    obtain ⟨r1, r2, r3, r4⟩ := He.exc_ok q.2
    have ec : eaOf l K c = He.ga K x := by
      unfold eaOf
      rw [show l.nm.excs[c]? = some (x, false) from g]
    show PySem.W.excIn K (eaOf l K c) He.veBase "ValueError.__new__" = true ∧ mg x = some (.ref (eaOf l K c)) ∧ PySem.W.keepIn K (.ref (eaOf l K c)) = true ∧ PySem.W.subIn K (.ref (eaOf l K c)) (.type "BaseException") = some true ∧ PySem.W.typeIn K (.ref (eaOf l K c)) = some (.type "type")
    rw [ec]
    exact ⟨r1, He.glo_ok X G q.1, r2, r3, r4⟩
  · obtain ⟨r1, r2, r3⟩ := xi hx
    exact ⟨(xfA l c).2, r1, r2, r3⟩
  · have hi := (List.getElem?_eq_some_iff.mp (excIx_get hx)).1
    have q := all_ix (all_ix e10 hi) h1
    have g : l.nm.excs[i]? = some (x, true) := excIx_get hx
    rw [g] at q
    cases hc2 : l.nm.excs[c]? with
    | none => rw [List.getElem?_eq_getElem (show c < l.nm.excs.length from h1)] at hc2; cases hc2
    | some y =>
      obtain ⟨y, b⟩ := y
      rw [hc2] at q
      dsimp only at q
      have h2 : l.exm c i = true := h2
      rw [h2, Bool.not_true, Bool.false_or, Bool.and_eq_true] at q
      obtain ⟨q1, q2⟩ := q
      subst q1
      have q2 := of_decide_eq_true q2
      obtain ⟨_, r2, r3⟩ := xi2 hc2
      refine ⟨q2, r2, ?_⟩
      show PySem.W.findIn K (.ref (eaOf l K c)) (xfA l i).1 = some none
      rw [← q2]
      exact r3
end
end Mn
end

section
set_option Elab.async false
set_option linter.all false
set_option maxRecDepth 100000
set_option maxHeartbeats 2000000
/-! M4d: the end of a law whose promise asks for a room with no guard below. -/
namespace Mn
open PySem PySem.Spec PyProof.Rows L2

/-- the script's object, an empty table of code objects -/
def scO (vs : List Value) : Obj := { cls := .type "list", data := .seq vs.toArray }
def tbO : Obj := { cls := .none, data := .fields #[] }
/-- what is told of the heap as the law begins -/
def lawH (K : PySem.W.Frag) (D : List Addr) (a : Addr) (vs : List Value) (ns : List Int) : Hp := fun b =>
  match decide (b ∈ D) with
  | true => some (.tbl #[])
  | false => match decide (b = a) && (K.lookup a).isNone with
    | true => some (.frz (scO vs) (.lst (ns.map V.int)))
    | false => none
section
variable {K : PySem.W.Frag} {D : List Addr} {a : Addr} {vs : List Value} {ns : List Int} {h : Heap}
theorem lawH_cases (b : Addr) : (b ∈ D ∧ lawH K D a vs ns b = some (.tbl #[])) ∨ (b ∉ D ∧ b = a ∧ K.lookup a = none ∧ lawH K D a vs ns b = some (.frz (scO vs) (.lst (ns.map V.int)))) ∨ (b ∉ D ∧ ¬ (b = a ∧ K.lookup a = none) ∧ lawH K D a vs ns b = none) := by
  unfold lawH
  by_cases hb : b ∈ D
  · exact .inl ⟨hb, by rw [decide_eq_true hb]⟩
  · rw [decide_eq_false hb]
    by_cases hc : b = a ∧ K.lookup a = none
    · exact .inr (.inl ⟨hb, hc.1, hc.2, by rw [decide_eq_true hc.1, hc.2]; rfl⟩)
    · refine .inr (.inr ⟨hb, hc, ?_⟩)
      have e : (decide (b = a) && (K.lookup a).isNone) = false := by
        cases hq : decide (b = a) && (K.lookup a).isNone with
        | false => rfl
        | true =>
          rw [Bool.and_eq_true] at hq
          exact (hc ⟨of_decide_eq_true hq.1, by simpa using hq.2⟩).elim
      rw [e]
/-- who is told stands for the script or a table -/
theorem lawH_obj (hT : ∀ b ∈ D, h.get? b = some tbO) (ha : h.get? a = some (scO vs)) {b : Addr} {o : Obj} (e : h.get? b = some o) (n1 : o ≠ scO vs) (n2 : o ≠ tbO) : (L2.hidT h (lawH K D a vs ns)).get? b = some o := by
  refine L2.hidT_get e ?_
  rcases lawH_cases (K := K) (D := D) (a := a) (vs := vs) (ns := ns) b with ⟨q, _⟩ | ⟨_, q, _, _⟩ | ⟨_, _, q⟩
  · exact (n2 (Option.some.inj (e.symm.trans (hT b q)))).elim
  · subst q; exact (n1 (Option.some.inj (e.symm.trans ha))).elim
  · exact q
theorem lawH_ns (hT : ∀ b ∈ D, h.get? b = some tbO) (ha : h.get? a = some (scO vs)) {b : Addr} {m : Str → Option Value} (n : h.Ns b m) : (L2.hidT h (lawH K D a vs ns)).Ns b m := by
  obtain ⟨o, es, ep, e, d, r⟩ := n
  have nd : ∀ o' : Obj, (∀ es ep, o'.data ≠ .dict es ep) → o ≠ o' := fun o' q z => q es ep (by rw [← z]; exact d)
  exact ⟨o, es, ep, lawH_obj hT ha e (nd _ fun _ _ z => nomatch z) (nd _ fun _ _ z => nomatch z), d, r⟩
theorem lawH_ok {P : Program} {w : World} (hT : ∀ b ∈ D, h.get? b = some tbO) (ha : h.get? a = some (scO vs)) (hi : IntsAre vs ns) (hl : ns.length ≤ sizeLine) : HOk P w (lawH K D a vs ns) h := fun b u z => by
  rcases lawH_cases (K := K) (D := D) (a := a) (vs := vs) (ns := ns) b with ⟨q, e⟩ | ⟨_, q, _, e⟩ | ⟨_, _, e⟩
  · cases e.symm.trans z; exact hT b q
  · cases e.symm.trans z
    subst q
    exact ⟨ha, by simpa using hl, vs, _, vals_ints hi, ha⟩
  · cases e.symm.trans z
theorem lawH_sq (KX : K.In h) (aD : a ∉ D) (ha : h.get? a = some (scO vs)) (hi : IntsAre vs ns) (hl : ns.length ≤ sizeLine) : SqL K (lawH K D a vs ns) a (ns.map V.int) := by
  rcases lawH_cases (K := K) (D := D) (a := a) (vs := vs) (ns := ns) a with ⟨q, _⟩ | ⟨_, _, _, e⟩ | ⟨_, q, _⟩
  · exact (aD q).elim
  · exact .inl (.inr ⟨_, e⟩)
  · cases hk : K.lookup a with
    | none => exact (q ⟨rfl, hk⟩).elim
    | some o =>
      have eo : o = scO vs := Option.some.inj ((KX a o hk).symm.trans ha)
      subst eo
      exact .inr ⟨_, _, _, hk, rfl, rfl, rfl, by rw [List.size_toArray, hi.length]; exact hl, by simpa using vals_ints hi⟩
end

/-- the law's promise, at the heap h behind the head -/
def LawAtG (l : PySem.W.OpenLaw) (w : World) (K : PySem.W.Frag) (CX : CXT) (k n : Nat) (x : Str) (mg : Str → Option Value) (fa : Addr) (h : Heap) : Prop :=
  ∃ (fd : FuncData) (cs : List (Addr × Addr)) (sp : Sp), (∀ p ∈ cs, h.get? p.2 = some tbO) ∧ (∀ p ∈ cs, K.lookup p.2 = none) ∧ (∀ p ∈ cs, PySem.W.CodeHd h p.1 p.2) ∧ (∀ (s : Shared) (u : Value), BindsTo s fd ⟨[u], []⟩ [(x, u)]) ∧
    (∀ (H : Hp) (a : Addr) (ns : List Int), ns.length ≤ n → (∀ z ∈ ns, Builtin.Int.intBits z ≤ 1048576) → (∀ p ∈ cs, H p.2 = some (.tbl #[])) → SqL K H a (ns.map V.int) → sp [.ref a] H (fun v _ => v = .bl true) fun _ _ _ => False) ∧
    ∀ base : Heap, K.In base → base.Ns mainGlobals mg → (∀ p ∈ cs, LamX.TabB base mg p.1 p.2) → Mn.FnOk l.prog w K mg base CX k fa fd [x] sp
theorem walkG {l : PySem.W.OpenLaw} {n k : Nat} {q : Program} {loose : List Str} {XP : (Str → Option Value) → Heap → Prop} {YP : World → Heap → Prop} {d : DefRec} {CX : World → CXT} {x : Str}
    (hn : l.most = some n) (hn2 : n ≤ sizeLine) (hdf : d.params.defaults = []) (hr : Mn.Room k callerA)
    (F : ∀ (w : World) (mg : Str → Option Value) (fa : Addr) (h : Heap), YP w h → h.Ns mainGlobals mg → mg d.name = some (.ref fa) → ∃ K : PySem.W.Frag, K.In h ∧ LawAtG l w K (CX w) k n x mg fa h)
    (hCX : ∀ (w : World) (H : Hp) (s : Shared) (e : Value) (s' : Shared), CX w [] H s (fun _ _ _ => False) e s' → False) :
    PySem.W.WalkO q loose XP YP l.row.toRowW d [] (fun f vs => PySem.call f vs) := by
  refine Att.attach_callB hn hdf fun w s₀ s mg mb fa o pm cd doc a vs ns G Y ho hd hcd hmg hobj hints hlen hbits hg => ?_
  obtain ⟨K, KX, fd, cs, sp, hT, nT, C, hb, hsp, hF⟩ := F w mg fa _ Y G.T.g hmg
  have hl := Nat.le_trans hlen hn2
  obtain ⟨D, eD⟩ : ∃ D, cs.map (·.2) = D := ⟨_, rfl⟩
  have hTD : ∀ b ∈ D, s.heap.get? b = some tbO := fun b hm => by
    rw [← eD] at hm
    obtain ⟨p, hp, rfl⟩ := List.mem_map.mp hm
    exact hT p hp
  have inD : ∀ p ∈ cs, p.2 ∈ D := fun p hp => by rw [← eD]; exact List.mem_map_of_mem hp
  have hobj : s.heap.get? a = some (scO vs) := hobj
  have aD : a ∉ D := fun z => by
    have q : scO vs = tbO := Option.some.inj (hobj.symm.trans (hTD a z))
    cases congrArg Obj.data q
  obtain ⟨H, eH⟩ : ∃ H, lawH K D a vs ns = H := ⟨_, rfl⟩
  have cas := lawH_cases (K := K) (D := D) (a := a) (vs := vs) (ns := ns)
  have ok : HOk l.prog w (lawH K D a vs ns) s.heap := lawH_ok hTD hobj hints hl
  have sq := lawH_sq (D := D) KX aD hobj hints hl
  have see : ∀ {b : Addr} {o : Obj}, s.heap.get? b = some o → o ≠ scO vs → o ≠ tbO → (L2.hidT s.heap (lawH K D a vs ns)).get? b = some o := fun e n1 n2 => lawH_obj hTD hobj e n1 n2
  have nsm : ∀ {b : Addr} {m : Str → Option Value}, s.heap.Ns b m → (L2.hidT s.heap (lawH K D a vs ns)).Ns b m := fun n => lawH_ns hTD hobj n
  have kin : K.In (L2.hidT s.heap (lawH K D a vs ns)) := fun b o e => L2.hidT_get (KX b o e) (by
    rcases cas b with ⟨q, _⟩ | ⟨_, q, q2, _⟩ | ⟨_, _, q⟩
    · rw [← eD] at q
      obtain ⟨p, hp, ep⟩ := List.mem_map.mp q
      have := nT p hp
      rw [ep, e] at this
      cases this
    · rw [q, q2] at e
      cases e
    · exact q)
  have tab : ∀ p ∈ cs, LamX.TabB (L2.hidT s.heap (lawH K D a vs ns)) mg p.1 p.2 := fun p hp => by
    refine ⟨?_, ?_, fun z => ?_⟩
    · obtain ⟨o, us, file, tf, flags, tg, inF, text, tt, e1, r1, r2, r3, r⟩ := C p hp
      have ne : ∀ o' : Obj, o'.data ≠ .fields us → o ≠ o' := fun o' q z => q (by rw [← z]; exact r2)
      exact ⟨o, us, file, tf, flags, tg, inF, text, tt, see e1 (ne _ fun z => nomatch z) (ne _ fun z => by cases z; simp at r3), r1, r2, r3, r⟩
    · obtain ⟨bm, ob, b1, b2, b3, b4, b5, b6⟩ := G.T.bmain
      have ne : ∀ o' : Obj, o'.data ≠ .plain → ob ≠ o' := fun o' q z => q (by rw [← z]; exact b6)
      refine ⟨bm, ob, b1, b2, fun q => ?_, fun q => ?_, see b3 (ne _ fun z => nomatch z) (ne _ fun z => nomatch z), b4, b5, b6⟩
      · obtain ⟨o, es, ep, e, hd, _⟩ := G.T.g
        rw [← q, b3] at e
        cases e
        cases b6.symm.trans hd
      · have e := hT p hp
        rw [← q, b3] at e
        exact ne tbO (fun z => nomatch z) (Option.some.inj e)
    · obtain ⟨o, es, ep, e, hd, _⟩ := G.T.g
      have q := hT p hp
      rw [← z, e] at q
      have e2 : o = tbO := Option.some.inj q
      subst e2
      cases hd
  have env : Env0 l.prog w K mg (L2.hidT s.heap (lawH K D a vs ns)) callerA [] s (lawH K D a vs ns) :=
    ⟨rfl, ⟨kin, nsm G.T.g, ⟨mb, nsm G.T.b, G.T.builtins⟩, let ⟨mc, m1, m2⟩ := G.T.nolimit; ⟨mc, nsm m1, m2⟩⟩, fun b o e => L2.of_hidT e, Nat.le_of_eq (L2.hidT_size _ _), trivial, fun b hb => (nomatch (show b ∈ ([] : List Addr) from hb)), ok, .of_eq hg⟩
  have tbl : ∀ p ∈ cs, lawH K D a vs ns p.2 = some (.tbl #[]) := fun p hp => by
    rcases cas p.2 with ⟨_, e⟩ | ⟨q, _⟩ | ⟨q, _⟩
    · exact e
    · exact (q (inD p hp)).elim
    · exact (q (inD p hp)).elim
  refine codeAny_mono ((hF _ kin (nsm G.T.g) tab).run callerA [] s _ ⟨[.ref a], []⟩ [.ref a] [.ref a] _ _ hr env (hb s (.ref a)) (.cons rfl .nil) (hsp _ a ns hlen hbits tbl sq)) fun r s' res => ?_
  match r, res with
  | .error e, res => exact (hCX w _ s e s' res).elim
  | .ok .next, res => exact False.elim res
  | .ok .brk, res => exact False.elim res
  | .ok .cont, res => exact False.elim res
  | .ok (.ret u), ⟨v, H', os, bare, un, ok', ru, ev⟩ =>
    have ev : v = .bl true := ev
    subst ev
    obtain rfl : u = Value.bool true := ru
    have keep : ∀ b o, b ∉ D → s.heap.get? b = some o → s'.heap.get? b = some o := fun b o nb e => by
      rcases cas b with ⟨q, _⟩ | ⟨_, q, _, z⟩ | ⟨_, _, z⟩
      · exact (nb q).elim
      · have z2 := (ok' b _ (un.frzs b _ _ z)).1
        subst q
        rw [hobj] at e
        cases e
        exact z2
      · exact un.keep b o e z (fun z => (nomatch (show b ∈ ([] : List Addr) from z))) (fun z => (nomatch z))
    have grow : ∀ p ∈ cs, ∃ more : Array Value, s'.heap.get? p.2 = some { cls := .none, data := .fields more } := fun p hp => by
      obtain ⟨more, z⟩ := un.tbls p.2 #[] (tbl p hp)
      exact ⟨_, ok' p.2 _ z⟩
    have inC : ∀ b ∈ D, ∃ p ∈ cs, p.2 = b := fun b q => by
      rw [← eD] at q
      exact List.mem_map.mp q
    refine ⟨rfl, ⟨fun b o e => ?_, fun b o e => ?_⟩, os, bare⟩ <;> by_cases nb : b ∈ D
    · obtain ⟨p, hp, rfl⟩ := inC b nb
      obtain ⟨more, hm⟩ := grow p hp
      cases Option.some.inj (e.symm.trans (hT p hp))
      exact .inr (.inl ⟨((C p hp).tab (hT p hp)).isCodeTable, rfl, #[], more, rfl, by rw [Array.empty_append]; exact hm⟩)
    · exact .inl (keep b o nb e)
    · obtain ⟨p, hp, rfl⟩ := inC b nb
      obtain ⟨more, hm⟩ := grow p hp
      exact ⟨_, hm⟩
    · exact ⟨o, keep b o nb e⟩
end Mn
end

section
set_option Elab.async false
set_option linter.all false
set_option maxRecDepth 100000
set_option maxHeartbeats 400000
/-! M4c: the hook, and the law's promise from a run of the interpreter. -/
namespace Mn
open PySem PySem.Spec PyProof.Rows L2

def tabA (K : PySem.W.Frag) (d : Df) : Addr := He.tabOf K (codeA K (d.wh.ad K))
def tabsM (g : Addr → Option Obj) (tf : List Df) (K : PySem.W.Frag) : Bool := tf.all fun d => PySem.W.codeHdIn K (codeA K (d.wh.ad K)) (tabA K d) && (match g (tabA K d) with
  | some o => He.emptyTab o
  | none => false)
def tabN (tf : List Df) (K : PySem.W.Frag) : Bool := decide (tf.map (tabA K)).Nodup
abbrev AlM : Type := Bool × List He.FnW
def obsM (as : (Addr → Option Obj) → List Addr) (fn tf : List Df) (ex : PySem.W.Frag → Bool) (g : Addr → Option Obj) : AlM :=
  ((fn.all fun d => d.a.ok (He.frT g (as g))) && (ex (He.frT g (as g)) && (tabsM g tf (He.frT g (as g)) && tabN tf (He.frT g (as g)))), fn.map fun d => He5.fnA (He.frT g (as g)) (d.wh.ad (He.frT g (as g))))
def valM (fn : List Df) : AlM := (true, fn.map fun d => d.a.val)
structure SaysM (fn tf : List Df) (ex : PySem.W.Frag → Bool) (h : Heap) (K : PySem.W.Frag) : Prop where
  d : ∀ (i : Nat) (d : Df), fn[i]? = some d → ∃ fd, FunD K d.name d.qual (defArgs d.st) (defBody d.st) (defScope d.st) [] [] (d.wh.ad K) fd
  ex : ex K = true
  hd : ∀ d ∈ tf, PySem.W.codeHdIn K (codeA K (d.wh.ad K)) (tabA K d) = true
  out : ∀ d ∈ tf, K.lookup (tabA K d) = none
  nd : (tf.map (tabA K)).Nodup
  empty : ∀ d ∈ tf, h.get? (tabA K d) = some { cls := .none, data := .fields #[] }
theorem saysM_of {as : (Addr → Option Obj) → List Addr} {fn tf : List Df} {ex : PySem.W.Frag → Bool} {h : Heap} (e : obsM as fn tf ex h.get? = valM fn) : SaysM fn tf ex h (He.frT h.get? (as h.get?)) := by
  unfold obsM valM at e
  generalize hK : He.frT h.get? (as h.get?) = K at e
  have e1 : ((fn.all fun d => d.a.ok K) && (ex K && (tabsM h.get? tf K && tabN tf K))) = true := congrArg Prod.fst e
  have e2 : (fn.map fun d => He5.fnA K (d.wh.ad K)) = fn.map fun d => d.a.val := congrArg Prod.snd e
  rw [Bool.and_eq_true, Bool.and_eq_true, Bool.and_eq_true] at e1
  obtain ⟨e3, e4, e5, e6⟩ := e1
  have key : ∀ d ∈ tf, PySem.W.codeHdIn K (codeA K (d.wh.ad K)) (tabA K d) = true ∧ ∃ o, h.get? (tabA K d) = some o ∧ He.emptyTab o = true := fun d hd => by
    have q := List.all_eq_true.mp e5 d hd
    rw [Bool.and_eq_true] at q
    refine ⟨q.1, ?_⟩
    have q2 := q.2
    split at q2
    · exact ⟨_, by assumption, q2⟩
    · cases q2
  refine ⟨fun i d hd => ?_, e4, fun d hd => (key d hd).1, fun d hd => ?_, of_decide_eq_true e6, fun d hd => ?_⟩
  · have e6 : (fn.map fun d => He5.fnA K (d.wh.ad K))[i]? = (fn.map fun d => d.a.val)[i]? := by rw [e2]
    rw [List.getElem?_map, List.getElem?_map, hd] at e6
    exact He5.DefA.funD (d := d.a) (Option.some.inj e6) (List.all_eq_true.mp e3 d (List.mem_of_getElem? hd))
  · obtain ⟨_, o, q, z⟩ := key d hd
    rw [← hK] at q ⊢
    exact He.frT_none q z
  · obtain ⟨_, o, q, z⟩ := key d hd
    rw [q, He.emptyTab_eq z]
def hookM (as : (Addr → Option Obj) → List Addr) (fn tf : List Df) (ex : PySem.W.Frag → Bool) : PySem.W.Hook where
  α := AlM
  obs := fun s => obsM as fn tf ex s.heap.get?
  val := fun _ => valM fn
  says := fun _ h => ∃ K : PySem.W.Frag, K.In h ∧ SaysM fn tf ex h K
  of := fun _ _ e => ⟨_, He.frT_in, saysM_of e⟩
  keeps := fun _ _ _ ⟨K, hK, c⟩ k => ⟨K, PySem.W.Frag.In.keeps hK k, ⟨c.d, c.ex, c.hd, c.out, c.nd, fun d hd => k _ _ (c.empty d hd)⟩⟩
theorem obsM_eq {as : (Addr → Option Obj) → List Addr} {fn tf : List Df} {ex : PySem.W.Frag → Bool} {g : Addr → Option Obj} {s : Shared} (h : ∀ a, g a = s.heap.get? a) : obsM as fn tf ex g = (hookM as fn tf ex).obs s := by
  have e : g = s.heap.get? := funext h
  rw [e] <;> rfl

/-! ### the law -/
def tfOf (l : Ld) : List Df := l.defs.filter fun d => decide (d.wh.key ∈ l.nm.tabs) || decide (d.wh.key ∈ l.nm.lams)
def tNm (l : Ld) (d : Df) : Option Str := match decide (d.wh.key ∈ l.nm.lams) with
  | true => some (d.qual ++ ".<locals>." ++ "<lambda>")
  | false => none
def tOf (l : Ld) (K : PySem.W.Frag) : List (Addr × Option Str) := (tfOf l).map fun d => (tabA K d, tNm l d)
theorem tOf_uni {l : Ld} {K : PySem.W.Frag} (nd : ((tfOf l).map (tabA K)).Nodup) {p p' : Addr × Option Str} (h : p ∈ tOf l K) (h' : p' ∈ tOf l K) (e : p.1 = p'.1) : p = p' := by
  obtain ⟨d, hd, rfl⟩ := List.mem_map.mp h
  obtain ⟨d', hd', rfl⟩ := List.mem_map.mp h'
  have go : ∀ (L : List Df), (L.map (tabA K)).Nodup → d ∈ L → d' ∈ L → tabA K d = tabA K d' → d = d' := fun L => by
    induction L with
    | nil => intro _ h; cases h
    | cons x r ih =>
      intro nd h h' e
      rw [List.map_cons, List.nodup_cons] at nd
      rcases List.mem_cons.mp h with h | h <;> rcases List.mem_cons.mp h' with h' | h'
      · rw [h, h']
      · exact (nd.1 (List.mem_map.mpr ⟨d', h', by rw [← e, h]⟩)).elim
      · exact (nd.1 (List.mem_map.mpr ⟨d, h, by rw [e, h']⟩)).elim
      · exact ih nd.2 h h' e
  rw [go _ nd hd hd' e]
/-- what is asked of the defs that take a lambda -/
def takB (l : Ld) : Bool := l.defs.all fun d => match isTak l.nm d with
  | true => decide (d.qual = d.name) && decide (d.wh.key.1 = d.name) && (match (fnT l.nm d).body with
    | .cons .bad .nil => false
    | _ => true)
  | false => true
theorem ints_rpl {F : Fx} {w : Wd} {n : Nat} {H : Hp} : ∀ ns : List Int, RpL F w n H (ns.map .int) (ns.map .int)
  | [] => rfl
  | z :: r => ⟨_, _, rfl, rfl, ints_rpl r⟩
theorem law_at {l : Ld} {ol : PySem.W.OpenLaw} {w : World} {mg : Str → Option Value} {fa : Addr} {h : Heap} {K : PySem.W.Frag} {li D : Nat} {dl : Df} {x : Arg} (X : K.In h) (G : h.Ns mainGlobals mg) (S : SaysM l.defs (tfOf l) (exB ol.prog l) h K)
    (hfa : mg "law" = some (.ref fa)) (hl : l.defs[li]? = some dl) (hw : dl.wh = .glo "law") (ha : defArgs dl.st = ⟨[], [x], none, [], [], none, []⟩) (hs : fnScB (dkOf l.nm dl).B.N [x.arg] (defScope dl.st) = true) (htk : takB l = true) (hnt : isTak l.nm dl = false) (hdj : (l.nm.tabs.all fun k => decide (k ∉ l.nm.lams)) = true)
    (run : ∀ ns : List Int, ns.length ≤ 63 → (∀ z ∈ ns, Builtin.Int.intBits z ≤ 1048576) → ∃ O, callAt l.pg (D + 1) li [.scr (ns.map .int)] [] = .ok (.bl true) O) :
    LawAtG ol w K (L2.CX ol.prog w) (4 * D + 3 + 1) 63 x.arg mg fa h := by
  have kp : ∀ (i : Nat) (d : Df), l.defs[i]? = some d → PySem.W.keepIn K (.ref (d.wh.ad K)) = true := fun i d hd => (S.d i d hd).elim fun fd F => F.kp
  have ok : ∀ base, LwOk (lwOf l ol.prog w base mg K (tOf l K)) := fun base => lwOk X G kp S.ex fun P q h1 h2 => by
    cases tOf_uni S.nd h1 h2 rfl
  have fE : ∀ i, (∀ d, l.defs[i]? = some d → faOf l K i = d.wh.ad K) := fun i d hd => by
    unfold faOf
    rw [hd]
  have hd : ∀ base, ∀ i d, l.defs[i]? = some d → ∃ fd, FunD (lwOf l ol.prog w base mg K (tOf l K)).F.K d.name d.qual (defArgs d.st) (defBody d.st) (defScope d.st) [] [] ((lwOf l ol.prog w base mg K (tOf l K)).F.fa i) fd := fun base i d hd => by
    show ∃ fd, FunD K d.name d.qual (defArgs d.st) (defBody d.st) (defScope d.st) [] [] (faOf l K i) fd
    rw [fE i d hd]
    exact S.d i d hd
  obtain ⟨fd, F⟩ := S.d li dl hl
  have efa : dl.wh.ad K = fa := by
    have q1 := List.all_eq_true.mp (by
      have e := S.ex
      unfold exB at e
      simp only [Bool.and_eq_true] at e
      exact e.2.2.1 : fnsB l K = true) dl (List.mem_of_getElem? hl)
    rw [hw] at q1 ⊢
    have q2 := (He.glo_ok X G q1).symm.trans hfa
    cases q2
    rfl
  rw [ha] at F
  have hS := fnScB_ok hs
  refine ⟨fd, (tfOf l).map fun d => (codeA K (d.wh.ad K), tabA K d), spF (fxOf l K (tOf l K)) (callAt l.pg (D + 1) li), fun p hp => ?_, fun p hp => ?_, fun p hp => ?_, fun s u => ?_, fun H a ns hn hb hT hq => ?_, fun base hbK hbG hTB => ?_⟩
  · obtain ⟨d, hd, rfl⟩ := List.mem_map.mp hp
    exact S.empty d hd
  · obtain ⟨d, hd, rfl⟩ := List.mem_map.mp hp
    exact S.out d hd
  · obtain ⟨d, hd, rfl⟩ := List.mem_map.mp hp
    exact PySem.W.codeHd_of_K X (S.hd d hd)
  · refine FunD.bindsA (ps := [x.arg]) F (fun kV doc pm an cdv ct us hl => ?_) s [u] rfl
    refine bind_plain (as := [x]) ?_ hl
    simp
  · obtain ⟨O', e⟩ := run ns hn hb
    have fin : ∀ w0 : Wd, SOk (fxOf l K (tOf l K)) w0 [] H → Rp (fxOf l K (tOf l K)) w0 0 H (.scr (ns.map .int)) (.ref a) → spF (fxOf l K (tOf l K)) (callAt l.pg (D + 1) li) [.ref a] H (fun v _ => v = .bl true) (fun _ _ _ => False) := fun w0 s0 r0 => by
      refine ⟨w0, [], [.scr (ns.map .int)], s0, RpL.one r0, ?_⟩
      rw [e]
      exact fun w' H' _ _ x hx => hx
    have tab : ∀ w0 : Wd, TabZ (fxOf l K (tOf l K)) w0 H := fun w0 p hp => by
      unfold fxOf tOf at hp
      obtain ⟨d, hd, rfl⟩ := List.mem_map.mp hp
      exact ⟨#[], hT _ (List.mem_map.mpr ⟨d, hd, rfl⟩), trivial, fun q hq pos cv e => by
        have e' : codeAmong pos [] = some cv := e
        simp [codeAmong] at e'⟩
    have rl : ∀ w0, RpL (fxOf l K (tOf l K)) w0 0 H (ns.map .int) (ns.map .int) := fun w0 => ints_rpl ns
    rcases hq with hq | hq
    · refine fin ⟨fun _ => 0, fun _ => 0, fun b => b = a⟩ ⟨fun b hb => ?_, tab _, fun k c e => by simp at e, fun j k c d a e => by simp at e⟩ ⟨a, _, rfl, .inl ⟨rfl, hq⟩, rl _⟩
      subst hb
      refine ⟨?_, fun ⟨k, c, e, _⟩ => by simp at e⟩
      rcases hq with hq | ⟨u, hq⟩
      · exact ⟨_, hq, fun _ z => nomatch z⟩
      · exact ⟨_, hq, fun _ z => nomatch z⟩
    · exact fin ⟨fun _ => 0, fun _ => 0, fun _ => False⟩ ⟨fun b hb => hb.elim, tab _, fun k c e => by simp at e, fun j k c d a e => by simp at e⟩ ⟨a, _, rfl, .inr hq, rl _⟩
  · have tb : ∀ (i : Nat) (d : Df), l.defs[i]? = some d → TbAt (lwOf l ol.prog w base mg K (tOf l K)) (decide (d.wh.key ∈ l.nm.tabs)) (faOf l K i) := fun i d hd hk => by
      have hm : d ∈ tfOf l := List.mem_filter.mpr ⟨List.mem_of_getElem? hd, by rw [hk]; rfl⟩
      have q := hTB (codeA K (d.wh.ad K), tabA K d) (List.mem_map.mpr ⟨d, hm, rfl⟩)
      rw [fE i d hd]
      refine ⟨tabA K d, ⟨q.code, q.bm, q.gP⟩, List.mem_map.mpr ⟨d, hm, ?_⟩⟩
      have nl := of_decide_eq_true (List.all_eq_true.mp hdj _ (of_decide_eq_true hk))
      unfold tNm
      rw [decide_eq_false nl]
    have lb : ∀ (i : Nat) (d : Df), l.defs[i]? = some d → LbAt (lwOf l ol.prog w base mg K (tOf l K)) (decide (d.wh.key ∈ l.nm.lams)) (faOf l K i) d.qual := fun i d hd hk => by
      have hm : d ∈ tfOf l := List.mem_filter.mpr ⟨List.mem_of_getElem? hd, by rw [hk, Bool.or_true]⟩
      have q := hTB (codeA K (d.wh.ad K), tabA K d) (List.mem_map.mpr ⟨d, hm, rfl⟩)
      rw [fE i d hd]
      have en : tNm l d = some (d.qual ++ ".<locals>." ++ "<lambda>") := by
        unfold tNm
        rw [hk]
      have mem : (tabA K d, some (d.qual ++ ".<locals>." ++ "<lambda>")) ∈ tOf l K := List.mem_map.mpr ⟨d, hm, by rw [en]⟩
      exact ⟨tabA K d, q, mem, fun p hp e => by rw [tOf_uni S.nd hp mem e]⟩
    have tks : ∀ (i : Nat) (d : Df), l.defs[i]? = some d → isTak l.nm d = true → d.qual = d.name ∧ d.wh.key.1 = d.name ∧ (fnT l.nm d = bad1 → False) := fun i d hd hk => by
      have q := List.all_eq_true.mp htk d (List.mem_of_getElem? hd)
      rw [hk] at q
      dsimp only at q
      rw [Bool.and_eq_true, Bool.and_eq_true] at q
      refine ⟨of_decide_eq_true q.1.1, of_decide_eq_true q.1.2, fun z => ?_⟩
      have q2 := q.2
      rw [z] at q2
      cases q2
    have kf : l.nm.fns = l.defs.map (·.wh.key) := by
      have e := S.ex
      unfold exB stB at e
      simp only [Bool.and_eq_true, decide_eq_true_eq] at e
      exact e.1.1.1
    have fns := fns_all (L := lwOf l ol.prog w base mg K (tOf l K)) (ok base) rfl rfl kf tks (hd base) tb lb D
    have F2 : FunD (lwOf l ol.prog w base mg K (tOf l K)).F.K dl.name dl.qual ⟨[], [x], none, [], [], none, []⟩ (defBody dl.st) (defScope dl.st) [] [] ((lwOf l ol.prog w base mg K (tOf l K)).F.fa li) fd := by
      show FunD K _ _ _ _ _ _ _ (faOf l K li) fd
      rw [fE li dl hl]
      exact F
    have q := fn_ok (L := lwOf l ol.prog w base mg K (tOf l K)) (ok base) fns F2 (D := dkOf l.nm dl) (n := 60) ?_ hS rfl (tb li dl hl) (lb li dl hl)
    · have e : (lwOf l ol.prog w base mg K (tOf l K)).F.fa li = fa := by
        show faOf l K li = fa
        rw [fE li dl hl, efa]
      rw [e] at q
      exact q
    · show (l.defs.map (fnE l.nm))[li]? = _
      rw [List.getElem?_map, hl]
      show some (fnE l.nm dl) = _
      unfold fnE
      rw [hnt]
      show some (fnP l.nm dl) = _
      unfold fnP
      rw [ha]
      exact congrArg some (if_pos hs)
/-- the addresses that are wanted: three steps from the globals, the defs, their code objects -/
def asM (defs : List Df) (g : Addr → Option Obj) : List Addr :=
  (fun a1 => a1 ++ defs.map fun d => codeA (He.frT g a1) (d.wh.ad (He.frT g a1))) ((fun a => a ++ defs.map fun d => d.wh.ad (He.frT g a)) (He.asD g 3))
/-- fewer: what the names stand for, what the classes hold, the defs, their code objects -/
def asN (names clss : List Str) (defs : List Df) (g : Addr → Option Obj) : List Addr :=
  (fun a2 => a2 ++ defs.map fun d => codeA (He.frT g a2) (d.wh.ad (He.frT g a2)))
    ((fun a1 => a1 ++ defs.map fun d => d.wh.ad (He.frT g a1))
      ((fun K0 => (mainGlobals :: names.map (He.ga K0)) ++ He.growD g (He.growD g (He.growD g (clss.map (He.ga K0))))) (He.frT g [mainGlobals])))
/-- .. and of the exceptions with an own __init__: that, its code object, its cells -/
def asX (names clss exs : List Str) (defs : List Df) (g : Addr → Option Obj) : List Addr :=
  (fun a2 => a2 ++ exs.flatMap fun x => (fun K => (fun f => [f, codeA K f] ++ match K.lookup f with
    | some ⟨_, _, .func fd, _⟩ => fd.closure.map (·.2)
    | _ => []) (He.ma K (He.ga K x) "__init__")) (He.frT g a2)) (cStatics :: asN names clss defs g)
end Mn
end

section
set_option Elab.async false
set_option linter.all false
set_option maxRecDepth 100000
set_option maxHeartbeats 0
namespace K73d
open PySem PySem.Spec PyProof.Rows L2 Mn
def top (i : Nat) : Stmt := PySem.Challenge.pw_sourceforms_k73_errors_of_powers.main.body.getD i (.Pass ⟨0, 0, 0, 0⟩)
def sub (i j : Nat) : Stmt := match top i with
  | .ClassDef _ _ _ b _ _ _ _ _ _ _ => b.getD j (.Pass ⟨0, 0, 0, 0⟩)
  | _ => .Pass ⟨0, 0, 0, 0⟩
def defs : List Df :=
  [⟨.glo "is_whole", "is_whole", "is_whole", top 12⟩, ⟨.glo "is_short", "is_short", "is_short", top 13⟩, ⟨.glo "is_from", "is_from", "is_from", top 14⟩, ⟨.glo "are_wholes", "are_wholes", "are_wholes", top 15⟩] ++
  [⟨.glo "are_short", "are_short", "are_short", top 16⟩, ⟨.glo "require_short", "require_short", "require_short", top 17⟩, ⟨.glo "require_from", "require_from", "require_from", top 18⟩, ⟨.glo "shared_of", "shared_of", "shared_of", top 19⟩] ++
  [⟨.glo "first_of", "first_of", "first_of", top 20⟩, ⟨.glo "primitive_of", "primitive_of", "primitive_of", top 21⟩, ⟨.glo "raised_to", "raised_to", "raised_to", top 22⟩, ⟨.glo "factorial_of", "factorial_of", "factorial_of", top 23⟩] ++
  [⟨.glo "lots_of", "lots_of", "lots_of", top 24⟩, ⟨.glo "is_point_any", "is_point_any", "is_point_any", top 25⟩, ⟨.glo "is_point", "is_point", "is_point", top 26⟩, ⟨.glo "lowest_of", "lowest_of", "lowest_of", top 28⟩] ++
  [⟨.glo "is_pair_of_ratio", "is_pair_of_ratio", "is_pair_of_ratio", top 29⟩, ⟨.glo "is_ratio_any", "is_ratio_any", "is_ratio_any", top 30⟩, ⟨.glo "is_ratio_in", "is_ratio_in", "is_ratio_in", top 31⟩, ⟨.glo "less_head", "less_head", "less_head", top 33⟩] ++
  [⟨.glo "echelon_rows", "echelon_rows", "echelon_rows", top 34⟩, ⟨.glo "lead_of", "lead_of", "lead_of", top 35⟩, ⟨.glo "rank_of", "rank_of", "rank_of", top 36⟩, ⟨.glo "kernel_rows", "kernel_rows", "kernel_rows", top 37⟩] ++
  [⟨.glo "joined_entries", "joined_entries", "joined_entries", top 41⟩, ⟨.glo "derived_in", "derived_in", "derived_in", top 44⟩, ⟨.glo "is_zero_in", "is_zero_in", "is_zero_in", top 45⟩, ⟨.glo "are_entries", "are_entries", "are_entries", top 47⟩] ++
  [⟨.glo "form_of", "form_of", "form_of", top 49⟩, ⟨.glo "require_form", "require_form", "require_form", top 50⟩, ⟨.glo "level_entries", "level_entries", "level_entries", top 53⟩, ⟨.glo "level_rows", "level_rows", "level_rows", top 54⟩] ++
  [⟨.glo "killed_in", "killed_in", "killed_in", top 55⟩, ⟨.glo "does_kill_in", "does_kill_in", "does_kill_in", top 56⟩, ⟨.glo "ranks_in", "ranks_in", "ranks_in", top 57⟩, ⟨.glo "killers_in", "killers_in", "killers_in", top 58⟩] ++
  [⟨.glo "does_kill", "does_kill", "does_kill", top 59⟩, ⟨.glo "killer_ranks", "killer_ranks", "killer_ranks", top 60⟩, ⟨.glo "killers", "killers", "killers", top 61⟩, ⟨.glo "moved_rows", "moved_rows", "moved_rows", top 64⟩] ++
  [⟨.glo "has_root_twice", "has_root_twice", "has_root_twice", top 65⟩, ⟨.glo "split_value", "split_value", "split_value", top 66⟩, ⟨.glo "split_slope", "split_slope", "split_slope", top 67⟩, ⟨.glo "split_inverse", "split_inverse", "split_inverse", top 68⟩] ++
  [⟨.glo "left_by", "left_by", "left_by", top 69⟩, ⟨.glo "is_simple_by", "is_simple_by", "is_simple_by", top 70⟩, ⟨.glo "next_prime_of", "next_prime_of", "next_prime_of", top 71⟩, ⟨.glo "lifted_root", "lifted_root", "lifted_root", top 72⟩] ++
  [⟨.glo "point_by", "point_by", "point_by", top 73⟩, ⟨.glo "with_line", "with_line", "with_line", top 74⟩, ⟨.glo "simple_points", "simple_points", "simple_points", top 75⟩, ⟨.glo "split_points", "split_points", "split_points", top 76⟩] ++
  [⟨.glo "power_entries", "power_entries", "power_entries", top 86⟩, ⟨.glo "numbers_in", "numbers_in", "numbers_in", top 87⟩, ⟨.glo "summed_in", "summed_in", "summed_in", top 88⟩, ⟨.glo "terms_at", "terms_at", "terms_at", top 89⟩] ++
  [⟨.glo "many_points", "many_points", "many_points", top 90⟩, ⟨.glo "first_killer", "first_killer", "first_killer", top 91⟩, ⟨.glo "least_powers", "least_powers", "least_powers", top 92⟩, ⟨.glo "require_form_and_many", "require_form_and_many", "require_form_and_many", top 93⟩] ++
  [⟨.glo "powers_paper", "powers_paper", "powers_paper", top 94⟩, ⟨.glo "is_term", "is_term", "is_term", top 95⟩, ⟨.glo "are_terms_of", "are_terms_of", "are_terms_of", top 96⟩, ⟨.glo "is_killer_paper", "is_killer_paper", "is_killer_paper", top 97⟩] ++
  [⟨.glo "is_open_paper", "is_open_paper", "is_open_paper", top 98⟩, ⟨.glo "is_powers_paper", "is_powers_paper", "is_powers_paper", top 99⟩, ⟨.glo "are_different_points", "are_different_points", "are_different_points", top 100⟩, ⟨.glo "numbers_at", "numbers_at", "numbers_at", top 101⟩] ++
  [⟨.glo "are_sum_terms", "are_sum_terms", "are_sum_terms", top 102⟩, ⟨.glo "powers_sum", "powers_sum", "powers_sum", top 103⟩, ⟨.glo "monomial_powers", "monomial_powers", "monomial_powers", top 104⟩, ⟨.glo "_law_dice", "_law_dice", "_law_dice", top 106⟩] ++
  [⟨.glo "_law_roll", "_law_roll", "_law_roll", top 107⟩, ⟨.glo "_law_pick", "_law_pick", "_law_pick", top 108⟩, ⟨.glo "_law_near", "_law_near", "_law_near", top 109⟩, ⟨.glo "_law_small_form", "_law_small_form", "_law_small_form", top 110⟩] ++
  [⟨.glo "_law_fault", "_law_fault", "_law_fault", top 111⟩, ⟨.glo "_law_forms_right", "_law_forms_right", "_law_forms_right", top 112⟩, ⟨.glo "_law_sums_right", "_law_sums_right", "_law_sums_right", top 113⟩, ⟨.glo "law", "law", "law", top 114⟩] ++
  [⟨.mth "Told" "__init__", "__init__", "Told.__init__", sub 46 1⟩, ⟨.mth "Form" "__init__", "__init__", "Form.__init__", sub 48 1⟩, ⟨.prp "Form" "entries", "entries", "Form.entries", sub 48 4⟩, ⟨.prp "Form" "degree", "degree", "Form.degree", sub 48 5⟩] ++
  [⟨.prp "Form" "is_zero", "is_zero", "Form.is_zero", sub 48 6⟩, ⟨.mth "Form" "__mul__", "__mul__", "Form.__mul__", sub 48 17⟩]
def nm : Nm where
  fns := defs.map (·.wh.key)
  cls := ["Told", "Form"]
  atts := ["own_row", "own_entries", "entries", "degree", "is_zero"]
  cons := ["GREATEST", "MAX_DEGREE", "LEAST_SPLIT", "MOST_POWERS", "MOST_DEGREE", "MOST_MONOMIAL", "PAIR", "POWERS", "RANK", "KILLER"]
  excs := [("LetterError", false), ("InvalidForm", false), ("InvalidPoint", false), ("InvalidOperation", false), ("InvalidNumber", true), ("TooMany", true), ("Refused", true)]
  muts := ["swapped_head", "add_product"]
  keeps := ["_law_dice"]
  opens := [("times_crossed", none)]
  blts := ["len", "abs", "min", "max", "int", "tuple", "list", "all", "any", "gcd", "lcm", "isinstance", "next", "repr"]
  tabs := [("first_of", none)]
  lams := [("_law_forms_right", none), ("_law_sums_right", none)]
  takers := ["_law_fault"]
  xfl := [("", 0), ("", 0), ("", 0), ("", 0), ("given", 1), ("limit", 2), ("reason", 3)]
def consI : List Cv := [.i 1000000000000000000000000000000000000000000000000000000000000, .i 40, .i 43, .i 50, .i 40, .i 20, .i 2, .s "powers", .s "rank", .s "killer"]
def clss : List Cls := [⟨1, 80, [(0, .slot 0)], none⟩, ⟨1, 81, [(1, .slot 0), (2, .prop 82), (3, .prop 83), (4, .prop 84)], some 85⟩]
def exmT : List (List Bool) := [[true, false, false, false, false, false, false], [true, true, false, false, false, false, false], [true, false, true, false, false, false, false], [true, false, false, true, false, false, false], [false, false, false, false, true, false, false], [false, false, false, false, false, true, false], [false, false, false, false, false, false, true]]
def ld : Ld := ⟨nm, defs, clss, consI, fun a b => (exmT.getD a []).getD b false⟩
def looseN : List Str :=
  (["_wall", "LetterError", "InvalidForm", "InvalidPoint", "InvalidOperation", "InvalidNumber", "TooMany", "Refused", "GREATEST", "is_whole", "is_short", "is_from", "are_wholes", "are_short", "require_short", "require_from", "shared_of", "first_of", "primitive_of", "raised_to"] : List Str) ++
  (["factorial_of", "lots_of", "is_point_any", "is_point", "lowest_of", "is_pair_of_ratio", "is_ratio_any", "is_ratio_in", "less_head", "echelon_rows", "lead_of", "rank_of", "kernel_rows", "MAX_DEGREE", "product_in", "joined_entries", "power_in", "value_in", "derived_in", "is_zero_in"] : List Str) ++
  (["Told", "are_entries", "Form", "form_of", "require_form", "sum_in", "level_entries", "level_rows", "killed_in", "does_kill_in", "ranks_in", "killers_in", "does_kill", "killer_ranks", "killers", "LEAST_SPLIT", "moved_rows", "has_root_twice", "split_value", "split_slope"] : List Str) ++
  (["split_inverse", "left_by", "is_simple_by", "next_prime_of", "lifted_root", "point_by", "with_line", "simple_points", "split_points", "MOST_POWERS", "MOST_DEGREE", "MOST_MONOMIAL", "PAIR", "POWERS", "RANK", "KILLER", "OPEN", "power_entries", "numbers_in", "summed_in"] : List Str) ++
  (["terms_at", "many_points", "first_killer", "least_powers", "require_form_and_many", "powers_paper", "is_term", "are_terms_of", "is_killer_paper", "is_open_paper", "is_powers_paper", "are_different_points", "numbers_at", "are_sum_terms", "powers_sum", "monomial_powers", "_law_dice", "_law_roll", "_law_pick", "_law_near"] : List Str) ++
  (["_law_small_form", "_law_fault", "_law_forms_right", "_law_sums_right"] : List Str)
def namesN : List Str :=
  (["is_whole", "is_short", "is_from", "are_wholes", "are_short", "require_short", "require_from", "shared_of", "first_of", "primitive_of", "raised_to", "factorial_of", "lots_of", "is_point_any", "is_point", "lowest_of", "is_pair_of_ratio", "is_ratio_any", "is_ratio_in", "less_head"] : List Str) ++
  (["echelon_rows", "lead_of", "rank_of", "kernel_rows", "joined_entries", "derived_in", "is_zero_in", "are_entries", "form_of", "require_form", "level_entries", "level_rows", "killed_in", "does_kill_in", "ranks_in", "killers_in", "does_kill", "killer_ranks", "killers", "moved_rows"] : List Str) ++
  (["has_root_twice", "split_value", "split_slope", "split_inverse", "left_by", "is_simple_by", "next_prime_of", "lifted_root", "point_by", "with_line", "simple_points", "split_points", "power_entries", "numbers_in", "summed_in", "terms_at", "many_points", "first_killer", "least_powers", "require_form_and_many"] : List Str) ++
  (["powers_paper", "is_term", "are_terms_of", "is_killer_paper", "is_open_paper", "is_powers_paper", "are_different_points", "numbers_at", "are_sum_terms", "powers_sum", "monomial_powers", "_law_dice", "_law_roll", "_law_pick", "_law_near", "_law_small_form", "_law_fault", "_law_forms_right", "_law_sums_right", "law"] : List Str) ++
  (["Told", "Form", "LetterError", "InvalidForm", "InvalidPoint", "InvalidOperation", "InvalidNumber", "TooMany", "Refused", "GREATEST", "MAX_DEGREE", "LEAST_SPLIT", "MOST_POWERS", "MOST_DEGREE", "MOST_MONOMIAL", "PAIR", "POWERS", "RANK", "KILLER"] : List Str)
def clsN : List Str := ["Told", "Form", "LetterError", "InvalidForm", "InvalidPoint", "InvalidOperation", "InvalidNumber", "TooMany", "Refused"]
def xisN : List Str := ["InvalidNumber", "TooMany", "Refused"]
def lawIx : Nat := 79
def lawTop : Nat := 114
abbrev R : PySem.W.OpenRow := PySem.W.OpenLaw.row PySem.Challenge.rw_sourceforms_k73_errors_of_powers
abbrev hk : PySem.W.Hook := hookM (asX namesN clsN xisN defs) defs (tfOf ld) (exB R.prog ld)
def ob (s : PySem.W.SharedT) : AlM := obsM (asX namesN clsN xisN defs) defs (tfOf ld) (exB R.prog ld) (HandSHeadRun.getT s)
theorem ob_eq (s : PySem.W.SharedT) : ob s = hk.obs s.abs := obsM_eq (HandSHeadRun.getT_eq s)
end K73d
end

section
namespace K73d
open PySem PySem.Spec PyProof.Rows L2 Mn
set_option maxRecDepth 100000
set_option maxHeartbeats 0
abbrev loose : List Str := looseN
noncomputable abbrev wh (w : World) : Option (Shared × PySem.W.SharedT) := HandSHeadRun.wholeF (fun p => HandSHeadRun.stepQ (HandSHeadRun.denQ HandSHeadRun.tabQ) p w) HandSHeadRun.fenceQ 40000 R.prog
abbrev vq : Program := PySem.W.view R.prog [0, lawTop]
def kf (s : PySem.W.SharedT) : PySem.W.Frag := He.frT (HandSHeadRun.getT s) (asX namesN clsN xisN defs (HandSHeadRun.getT s))
theorem run1 (w : World) : (wh w).map (fun x => (HandSHeadRun.looksF R.prog x.1.heap x.2.abs, HandSHeadRun.seenQ vq loose (importedModules R.prog.main.body) (fun s => PySem.W.xlAt vq [] s && PySem.W.recOk R.toRowW.records s) x.2.abs)) = some (true, PySem.W.openGood vq loose) := by kernel_rfl
theorem run2 (w : World) : (wh w).map (fun x => defs.all fun d => d.a.ok (kf x.2)) = some true := by kernel_rfl
theorem run3 (w : World) : (wh w).map (fun x => exB R.prog ld (kf x.2) && (tabsM (HandSHeadRun.getT x.2) (tfOf ld) (kf x.2) && tabN (tfOf ld) (kf x.2))) = some true := by kernel_rfl
theorem run4 (w : World) : (wh w).map (fun x => defs.map fun d => He5.fnA (kf x.2) (d.wh.ad (kf x.2))) = some (defs.map fun d => d.a.val) := by kernel_rfl
theorem comb {T A B : Type} (W : Option T) {l a b : T → Bool} {s : T → A} {m : T → B} {g : A} {v : B} (h1 : W.map (fun x => (l x, s x)) = some (true, g)) (h2 : W.map a = some true) (h3 : W.map b = some true) (h4 : W.map m = some v) :
    W.map (fun x => (l x, s x, ((a x && b x), m x))) = some (true, g, (true, v)) := by
  cases W with
  | none => cases h1
  | some x =>
    have e1 := Option.some.inj h1
    have e2 : a x = true := Option.some.inj h2
    have e3 : b x = true := Option.some.inj h3
    have e4 : m x = v := Option.some.inj h4
    have e5 : l x = true := congrArg Prod.fst e1
    have e6 : s x = g := congrArg Prod.snd e1
    show some (l x, s x, ((a x && b x), m x)) = _
    rw [e2, e3, e4, e5, e6]
    rfl
theorem ob_def (s : PySem.W.SharedT) : ob s = (((defs.all fun d => d.a.ok (kf s)) && (exB R.prog ld (kf s) && (tabsM (HandSHeadRun.getT s) (tfOf ld) (kf s) && tabN (tfOf ld) (kf s)))), defs.map fun d => He5.fnA (kf s) (d.wh.ad (kf s))) := by kernel_rfl
theorem val_def (w : World) : hk.val w = (true, defs.map fun d => d.a.val) := by kernel_rfl
theorem run (w : World) : HandSHeadRun.RunEqI R vq hk ob 40000 loose w := by
  have h1 := run1 w
  have h2 := run2 w
  have h3 := run3 w
  have h4 := run4 w
  have eo := funext ob_def
  unfold HandSHeadRun.RunEqI
  rw [eo, val_def]
  unfold wh at h1 h2 h3 h4
  generalize HandSHeadRun.wholeF (fun p => HandSHeadRun.stepQ (HandSHeadRun.denQ HandSHeadRun.tabQ) p w) HandSHeadRun.fenceQ 40000 R.prog = W at h1 h2 h3 h4 ⊢
  have h := comb W h1 h2 h3 h4
  exact h
end K73d
end

section
set_option Elab.async false
set_option linter.all false
/-! Q0: running the interpreter by rewriting. -/
namespace Mn
open PySem

/-! ### pieces -/
structure Tr {α : Type} (a : α) : Type where
  mk ::
/-- bind, of which simp looks at the first part alone -/
def Res.bd {α β : Type} (r : Res α) (f : α → Store → Res β) (_h : Tr f := Tr.mk) : Res β := r.bind f
def tst {α : Type} (x : Val) (A B : Res α) (_h : Tr A := Tr.mk) (_h' : Tr B := Tr.mk) : Res α := match x with
  | .bl true => A
  | .bl false => B
  | _ => .bad
theorem tst_t {α : Type} (A B : Res α) (h : Tr A) (h' : Tr B) : tst (.bl true) A B h h' = A := Eq.trans rfl rfl
theorem tst_f {α : Type} (A B : Res α) (h : Tr A) (h' : Tr B) : tst (.bl false) A B h h' = B := Eq.trans rfl rfl
def getV (o : Option (Option Val)) (O : Store) : Res Val := match o with
  | some (some v) => .ok v O
  | _ => .bad
theorem getV_some (v : Val) (O : Store) : getV (some (some v)) O = .ok v O := Eq.trans rfl rfl
theorem bind_ok {α β : Type} (a : α) (O : Store) (f : α → Store → Res β) (h : Tr f) : (Res.ok a O).bd f h = f a O := Eq.trans rfl rfl
theorem bind_exc {α β : Type} (c : Nat) (p : List Val) (O : Store) (f : α → Store → Res β) (h : Tr f) : (Res.exc c p O : Res α).bd f h = .exc c p O := Eq.trans rfl rfl
theorem ofO_some {α : Type} (a : α) (O : Store) : ofO (some a) O = .ok a O := Eq.trans rfl rfl
theorem ofO2_some {α : Type} (a : α) (O : Store) : ofO2 (some (a, O)) = .ok a O := Eq.trans rfl rfl
def oB (o : Option Bool) (O : Store) : Res Val := match o with
  | some r => .ok (.bl r) O
  | none => .bad
theorem oB_some (r : Bool) (O : Store) : oB (some r) O = .ok (.bl r) O := Eq.trans rfl rfl
def isB (x : Val) (O : Store) : Res Bool := match x with
  | .bl b => .ok b O
  | _ => .bad
theorem isB_bl (b : Bool) (O : Store) : isB (.bl b) O = .ok b O := Eq.trans rfl rfl

/-! ### expressions -/
section
variable {X : Ctx} {ρ : Env} {O : Store}
theorem ev_var (i : Nat) : ev X (.var i) ρ O = getV ρ[i]? O := Eq.trans rfl rfl
theorem ev_glo (i : Nat) : ev X (.glo i) ρ O = ofO X.pg.cons[i]? O := Eq.trans rfl rfl
theorem ev_fn (i : Nat) : ev X (.fn i) ρ O = .ok (.fn i) O := Eq.trans rfl rfl
theorem ev_non : ev X .non ρ O = .ok .non O := Eq.trans rfl rfl
theorem ev_bl (b : Bool) : ev X (.bl b) ρ O = .ok (.bl b) O := Eq.trans rfl rfl
theorem ev_int (i : Int) : ev X (.int i) ρ O = .ok (.int i) O := Eq.trans rfl rfl
theorem ev_str (s : Str) : ev X (.str s) ρ O = .ok (.str s) O := Eq.trans rfl rfl
theorem ev_edic : ev X .edic ρ O = .ok .edic O := Eq.trans rfl rfl
def binR (X : Ctx) (kp : Bool) (op : Bop) (x y : Val) (O : Store) : Res Val := match op with
  | .mul => match x with
    | .obj c _ => match X.pg.cls[c]? with
      | some k => match k.mul with
        | some f => match y with
          | .int _ => noX (X.call f [x, y] O)
          | _ => .bad
        | none => .bad
      | none => .bad
    | _ => ofO2 (binV kp .mul x y O)
  | op => ofO2 (binV kp op x y O)
theorem ev_binQ (kp : Bool) (op : Bop) (a b : Ex) : ev X (.bin kp op a b) ρ O = (ev X a ρ O).bd fun x O1 => (ev X b ρ O1).bd fun y O2 => binR X kp op x y O2 := Eq.trans rfl rfl
def negR (x : Val) (O : Store) : Res Val := match x with | .int i => .ok (.int (-i)) O | _ => .bad
theorem negR_int (i : Int) : negR (.int i) O = .ok (.int (-i)) O := Eq.trans rfl rfl
theorem ev_neg (a : Ex) : ev X (.neg a) ρ O = (ev X a ρ O).bd negR := Eq.trans rfl rfl
def notR (x : Val) (O : Store) : Res Val := match x with | .bl b => .ok (.bl (!b)) O | _ => .bad
theorem notR_bl (b : Bool) : notR (.bl b) O = .ok (.bl (!b)) O := Eq.trans rfl rfl
theorem ev_nt (a : Ex) : ev X (.nt a) ρ O = (ev X a ρ O).bd notR := Eq.trans rfl rfl
theorem ev_cmp (op : Cop) (a b : Ex) : ev X (.cmp op a b) ρ O = (ev X a ρ O).bd fun x O1 => (ev X b ρ O1).bd fun y O2 => oB (cmpV op x y O2) O2 := Eq.trans rfl rfl
def chnR (o : Option Bool) (O : Store) (k : Res Val) (_h : Tr k := Tr.mk) : Res Val := match o with
  | some true => k
  | some false => .ok (.bl false) O
  | none => .bad
theorem chnR_t (k : Res Val) (h : Tr k) : chnR (some true) O k h = k := Eq.trans rfl rfl
theorem chnR_f (k : Res Val) (h : Tr k) : chnR (some false) O k h = .ok (.bl false) O := Eq.trans rfl rfl
theorem ev_chn (op op' : Cop) (a b c : Ex) : ev X (.chn op op' a b c) ρ O = (ev X a ρ O).bd fun x O1 => (ev X b ρ O1).bd fun y O2 => chnR (cmpV op x y O2) O2 ((ev X c ρ O2).bd fun z O3 => oB (cmpV op' y z O3) O3) := Eq.trans rfl rfl
theorem ev_and (a b : Ex) : ev X (.and a b) ρ O = (ev X a ρ O).bd fun x O1 => tst x (ev X b ρ O1) (.ok (.bl false) O1) := Eq.trans rfl rfl
theorem ev_or (a b : Ex) : ev X (.or a b) ρ O = (ev X a ρ O).bd fun x O1 => tst x (.ok (.bl true) O1) (ev X b ρ O1) := Eq.trans rfl rfl
theorem ev_ite (c a b : Ex) : ev X (.ite c a b) ρ O = (ev X c ρ O).bd fun x O1 => tst x (ev X a ρ O1) (ev X b ρ O1) := Eq.trans rfl rfl
theorem ev_tup (es : Exs) : ev X (.tup es) ρ O = (evs X es ρ O).bd fun vs O1 => ofO2 (newT vs O1) := Eq.trans rfl rfl
theorem ev_tupk (es : Exs) : ev X (.tupk es) ρ O = (evs' X es ρ O).bd fun vs O1 => ofO2 (newT vs O1) := Eq.trans rfl rfl
theorem ev_lst (kp : Bool) (es : Exs) : ev X (.lst kp es) ρ O = (evs X es ρ O).bd fun vs O1 => ofO2 (newL kp vs O1) := Eq.trans rfl rfl
theorem ev_isi (t : Ty) (a : Ex) : ev X (.isi t a) ρ O = (ev X a ρ O).bd fun x O1 => oB (isTyP X.pg t x) O1 := Eq.trans rfl rfl
def intqR (x : Val) (O : Store) : Res Val := match x with | .int _ => .ok x O | _ => .bad
theorem intqR_int (i : Int) : intqR (.int i) O = .ok (.int i) O := Eq.trans rfl rfl
theorem ev_intq (a : Ex) : ev X (.intq a) ρ O = (ev X a ρ O).bd intqR := Eq.trans rfl rfl
theorem ev_idx (a i : Ex) : ev X (.idx a i) ρ O = (ev X a ρ O).bd fun x O1 => (ev X i ρ O1).bd fun y O2 => ofO (idxV x y O2) O2 := Eq.trans rfl rfl
theorem ev_sl (kp : Bool) (a lo hi : Ex) : ev X (.sl kp a lo hi) ρ O = (ev X a ρ O).bd fun x O1 => (ev X lo ρ O1).bd fun y O2 => (ev X hi ρ O2).bd fun z O3 => ofO2 (sliceV kp x y z O3) := Eq.trans rfl rfl
theorem ev_rev (kp : Bool) (a : Ex) : ev X (.rev kp a) ρ O = (ev X a ρ O).bd fun x O1 => ofO2 (revV kp x O1) := Eq.trans rfl rfl
theorem ev_call (f : Nat) (es : Exs) : ev X (.call f es) ρ O = (evs' X es ρ O).bd fun vs O1 => X.call f vs O1 := Eq.trans rfl rfl
def callVR (X : Ctx) (o : Option (Option Val)) (r : Res (List Val)) : Res Val := match o with
  | some (some (.fn f)) => r.bd fun vs O1 => X.call f vs O1
  | _ => .bad
theorem callVR_fn (f : Nat) (r : Res (List Val)) : callVR X (some (some (.fn f))) r = r.bd fun vs O1 => X.call f vs O1 := Eq.trans rfl rfl
theorem ev_callV (i : Nat) (es : Exs) : ev X (.callV i es) ρ O = callVR X ρ[i]? (evs' X es ρ O) := Eq.trans rfl rfl
theorem ev_callT : ev X .callT ρ O = X.th O := Eq.trans rfl rfl
theorem ev_blt (b : Blt) (kp : Bool) (es : Exs) : ev X (.blt b kp es) ρ O = (evs' X es ρ O).bd fun vs O1 => ofO2 (bltV b kp vs O1) := Eq.trans rfl rfl
def mthR (X : Ctx) (m : Mth) (o : Option (List Val)) (x : Val) (r : Res (List Val)) : Res Val := match o with
  | some _ => r.bd fun vs O2 => ofO2 (mthV m X.fz x vs O2)
  | none => .bad
theorem mthR_some (m : Mth) (l : List Val) (x : Val) (r : Res (List Val)) : mthR X m (some l) x r = r.bd fun vs O2 => ofO2 (mthV m X.fz x vs O2) := Eq.trans rfl rfl
theorem ev_mth (m : Mth) (o : Ex) (es : Exs) : ev X (.mth m o es) ρ O = (ev X o ρ O).bd fun x O1 => mthR X m (listOf O1 x) x (evs' X es ρ O1) := Eq.trans rfl rfl
def attR (X : Ctx) (o : Option (Val ⊕ Nat)) (x : Val) (O : Store) : Res Val := match o with
  | some (.inl v) => .ok v O
  | some (.inr f) => noX (X.call f [x] O)
  | none => .bad
theorem attR_l (v x : Val) : attR X (some (.inl v)) x O = .ok v O := Eq.trans rfl rfl
theorem attR_r (f : Nat) (x : Val) : attR X (some (.inr f)) x O = noX (X.call f [x] O) := Eq.trans rfl rfl
theorem noX_ok {α : Type} (a : α) (O : Store) : noX (.ok a O) = .ok a O := Eq.trans rfl rfl
theorem ev_att (o : Ex) (a : Nat) : ev X (.att o a) ρ O = (ev X o ρ O).bd fun x O1 => attR X (attOf X.pg O1 x a) x O1 := Eq.trans rfl rfl
def nonR (n : Nat) (v : Val) (O : Store) : Res Val := match v with
  | .non => ofO2 (made n O)
  | _ => .bad
theorem nonR_non (n : Nat) : nonR n .non O = ofO2 (made n O) := Eq.trans rfl rfl
def mkQ (X : Ctx) (c : Nat) (o : Option Cls) (vs : List Val) (O : Store) : Res Val := match o with
  | some k => (X.call k.init (.own O.length :: vs) (O ++ [.ins c (List.replicate k.n none)])).bd fun v O2 => nonR O.length v O2
  | none => .bad
theorem mkQ_some (c : Nat) (k : Cls) (vs : List Val) : mkQ X c (some k) vs O = (X.call k.init (.own O.length :: vs) (O ++ [.ins c (List.replicate k.n none)])).bd fun v O2 => nonR O.length v O2 := Eq.trans rfl rfl
theorem ev_mk (c : Nat) (es : Exs) : ev X (.mk c es) ρ O = (evs' X es ρ O).bd fun vs O1 => mkQ X c X.pg.cls[c]? vs O1 := Eq.trans rfl rfl
theorem ev_lam (g : Nat) (e : Ex) : ev X (.lam g e) ρ O = noX (X.callL g (fun O1 => ev X e ρ O1) O) := Eq.trans rfl rfl
def nxR (k d : Int) (o : Option (List Val)) (O : Store) : Res Val := match o with
  | some l => (match intsOf l with
    | some is => .ok (.int ((is.find? (fun n => n != k)).getD d)) O
    | none => .bad)
  | none => .bad
theorem ev_nx0 (k d : Int) (e : Ex) : ev X (.nx0 k d e) ρ O = (ev X e ρ O).bd fun x O1 => nxR k d (seqOf O1 x) O1 := Eq.trans rfl rfl

/-! ### lists of expressions -/
theorem evs'_nil : evs' X .nil ρ O = .ok [] O := Eq.trans rfl rfl
theorem evs'_cons (e : Ex) (es : Exs) : evs' X (.cons e es) ρ O = (ev X e ρ O).bd fun x O1 => (evs' X es ρ O1).bd fun xs O2 => .ok (x :: xs) O2 := Eq.trans rfl rfl
theorem evs_nil : evs X .nil ρ O = .ok [] O := Eq.trans rfl rfl
def embR {α : Type} (o : Option (Val × Store)) (k : Val → Store → Res α) (_h : Tr k := Tr.mk) : Res α := match o with
  | some (x, O) => k x O
  | none => .bad
theorem embR_some {α : Type} (x : Val) (O : Store) (k : Val → Store → Res α) (h : Tr k) : embR (some (x, O)) k h = k x O := Eq.trans rfl rfl
theorem evs_cons (e : Ex) (es : Exs) : evs X (.cons e es) ρ O = (ev X e ρ O).bd fun x O1 => embR (emb X.fz x O1) fun x' O2 => (evs X es ρ O2).bd fun xs O3 => .ok (x' :: xs) O3 := Eq.trans rfl rfl
def starR (o : Option (List Val)) (r : Res (List Val)) : Res (List Val) := match o with
  | some l => r.bd fun xs O2 => .ok (l ++ xs) O2
  | none => .bad
theorem starR_some (l : List Val) (r : Res (List Val)) : starR (some l) r = r.bd fun xs O2 => .ok (l ++ xs) O2 := Eq.trans rfl rfl
theorem evs_star (e : Ex) (es : Exs) : evs X (.star e es) ρ O = (ev X e ρ O).bd fun x O1 => starR (seqOf O1 x) (evs X es ρ O1) := Eq.trans rfl rfl
theorem conds_nil : conds X .nil ρ O = .ok true O := Eq.trans rfl rfl
theorem conds_one (e : Ex) : conds X (.cons e .nil) ρ O = (ev X e ρ O).bd isB := Eq.trans rfl rfl

/-! ### targets -/
theorem asg_t (i : Nat) (v : Val) : asg X (.nm true i) v ρ O = .ok (ρ.set i (some v)) O := Eq.trans rfl rfl
theorem asg_f (i : Nat) (v : Val) : asg X (.nm false i) v ρ O = embR (close v O) fun v' O1 => .ok (ρ.set i (some v')) O1 := Eq.trans rfl rfl
def tpR (X : Ctx) (ts : Tgs) (v : Val) (ρ : Env) (O : Store) : Res Env := match v with
  | .tup l => (match Nat.beq ts.len l.length with | true => asgs X ts l ρ O | false => .bad)
  | .lst l => (match Nat.beq ts.len l.length with | true => asgs X ts l ρ O | false => .bad)
  | _ => .bad
theorem asg_tp (ts : Tgs) (v : Val) : asg X (.tp ts) v ρ O = tpR X ts v ρ O := Eq.trans rfl rfl
theorem tpR_2 (a b : Tg) (x y : Val) : tpR X (.cons a (.cons b .nil)) (.tup [x, y]) ρ O = asgs X (.cons a (.cons b .nil)) [x, y] ρ O := Eq.trans rfl rfl
theorem tpR_2l (a b : Tg) (x y : Val) : tpR X (.cons a (.cons b .nil)) (.lst [x, y]) ρ O = asgs X (.cons a (.cons b .nil)) [x, y] ρ O := Eq.trans rfl rfl
theorem tpR_3 (a b c : Tg) (x y z : Val) : tpR X (.cons a (.cons b (.cons c .nil))) (.tup [x, y, z]) ρ O = asgs X (.cons a (.cons b (.cons c .nil))) [x, y, z] ρ O := Eq.trans rfl rfl
def oS (o : Option Store) (ρ : Env) : Res Env := match o with
  | some O => .ok ρ O
  | none => .bad
theorem oS_some (O : Store) (ρ : Env) : oS (some O) ρ = .ok ρ O := Eq.trans rfl rfl
theorem asg_sub (o i : Ex) (v : Val) : asg X (.sub o i) v ρ O = (ev X o ρ O).bd fun x O1 => (ev X i ρ O1).bd fun y O2 => oS (setV X.fz x y v O2) ρ := Eq.trans rfl rfl
theorem asgs_nil : asgs X .nil [] ρ O = .ok ρ O := Eq.trans rfl rfl
theorem asgs_cons (t : Tg) (ts : Tgs) (v : Val) (r : List Val) : asgs X (.cons t ts) (v :: r) ρ O = (asg X t v ρ O).bd fun ρ1 O1 => asgs X ts r ρ1 O1 := Eq.trans rfl rfl

/-! ### statements -/
theorem ex_asgQ (t : Tg) (e : Ex) : ex X (.asg t e) ρ O = (ev X e ρ O).bd fun v O1 => (asg X t v ρ O1).bd fun ρ1 O2 => .ok (.nx ρ1) O2 := Eq.trans rfl rfl
theorem ex_ex (e : Ex) : ex X (.ex e) ρ O = (ev X e ρ O).bd fun _ O1 => .ok (.nx ρ) O1 := Eq.trans rfl rfl
theorem ex_ret (e : Ex) : ex X (.ret e) ρ O = (ev X e ρ O).bd fun v O1 => .ok (.rt v) O1 := Eq.trans rfl rfl
theorem ex_ifs (c : Ex) (a b : Ss) : ex X (.ifs c a b) ρ O = (ev X c ρ O).bd fun x O1 => tst x (exs X a ρ O1) (exs X b ρ O1) := Eq.trans rfl rfl
theorem ex_rse (c : Nat) : ex X (.rse c .nil) ρ O = .exc c [] O := Eq.trans rfl rfl
def augR (i : Nat) (op : Bop) (o : Option (Option Val)) (r : Res Val) (ρ : Env) : Res Fl := match o with
  | some (some (.int x)) => r.bd fun y O1 => (ofO2 (binV false op (.int x) y O1)).bd fun z O2 => .ok (.nx (ρ.set i (some z))) O2
  | some (some (.str x)) => r.bd fun y O1 => (ofO2 (binV false op (.str x) y O1)).bd fun z O2 => .ok (.nx (ρ.set i (some z))) O2
  | _ => .bad
theorem augR_int (i : Nat) (op : Bop) (x : Int) (r : Res Val) : augR i op (some (some (.int x))) r ρ = r.bd fun y O1 => (ofO2 (binV false op (.int x) y O1)).bd fun z O2 => .ok (.nx (ρ.set i (some z))) O2 := Eq.trans rfl rfl
theorem ex_aug (i : Nat) (op : Bop) (e : Ex) : ex X (.aug i op e) ρ O = augR i op ρ[i]? (ev X e ρ O) ρ := by
  show (match ρ[i]? with
    | some (some (.int x)) => _
    | some (some (.str x)) => _
    | _ => _) = _
  unfold augR
  split <;> rfl
def augSR (X : Ctx) (op : Bop) (e : Ex) (x y w : Val) (ρ : Env) (O : Store) : Res Fl := match w with
  | .int n => (ev X e ρ O).bd fun z O4 => (ofO2 (binV false op (.int n) z O4)).bd fun r O5 => (match setV true x y r O5 with
    | some O6 => .ok (.nx ρ) O6
    | none => .bad)
  | _ => .bad
def oF (o : Option Store) (ρ : Env) : Res Fl := match o with
  | some O => .ok (.nx ρ) O
  | none => .bad
theorem oF_some (O : Store) (ρ : Env) : oF (some O) ρ = .ok (.nx ρ) O := Eq.trans rfl rfl
theorem augSR_int (op : Bop) (e : Ex) (x y : Val) (n : Int) : augSR X op e x y (.int n) ρ O = (ev X e ρ O).bd fun z O4 => (ofO2 (binV false op (.int n) z O4)).bd fun r O5 => oF (setV true x y r O5) ρ := Eq.trans rfl rfl
theorem ex_augS (o i : Ex) (op : Bop) (e : Ex) : ex X (.augS o i op e) ρ O = (ev X o ρ O).bd fun x O1 => (ev X i ρ O1).bd fun y O2 => (ofO (idxL x y O2) O2).bd fun w O3 => augSR X op e x y w ρ O3 := Eq.trans rfl rfl
def nxt (X : Ctx) (r : Ss) (f : Fl) (O : Store) : Res Fl := match f with
  | .nx ρ1 => exs X r ρ1 O
  | f => .ok f O
theorem nxt_nx (r : Ss) (ρ1 : Env) : nxt X r (.nx ρ1) O = exs X r ρ1 O := Eq.trans rfl rfl
theorem nxt_rt (r : Ss) (v : Val) : nxt X r (.rt v) O = .ok (.rt v) O := Eq.trans rfl rfl
theorem exs_nil : exs X .nil ρ O = .ok (.nx ρ) O := Eq.trans rfl rfl
theorem exs_cons (s : St) (r : Ss) : exs X (.cons s r) ρ O = (ex X s ρ O).bd fun f O1 => nxt X r f O1 := Eq.trans rfl rfl

/-! ### loops -/
def itB {α : Type} (o : Option It) (k : It → Res α) (_h : Tr k := Tr.mk) : Res α := match o with
  | some it => k it
  | none => .bad
theorem itB_some {α : Type} (it : It) (k : It → Res α) (h : Tr k) : itB (some it) k h = k it := Eq.trans rfl rfl
/-- what a turn's body leaves -/
def trn (g : Fl) (O : Store) : Res (Fl × Bool) := match g with
  | .nx ρ3 => .ok (.nx ρ3, true) O
  | .ct ρ3 => .ok (.nx ρ3, true) O
  | .bk ρ3 => .ok (.nx ρ3, false) O
  | .rt v => .ok (.rt v, false) O
theorem trn_nx (ρ : Env) : trn (.nx ρ) O = .ok (.nx ρ, true) O := Eq.trans rfl rfl
theorem trn_rt (v : Val) : trn (.rt v) O = .ok (.rt v, false) O := Eq.trans rfl rfl
def foTurn (X : Ctx) (t : Tg) (b : Ss) (v : Val) (f : Fl) (O2 : Store) : Res (Fl × Bool) := match f with
  | .nx ρ1 => (asg X t v ρ1 O2).bd fun ρ2 O3 => (exs X b ρ2 O3).bd trn
  | _ => .bad
theorem foTurn_nx (t : Tg) (b : Ss) (v : Val) : foTurn X t b v (.nx ρ) O = (asg X t v ρ O).bd fun ρ2 O3 => (exs X b ρ2 O3).bd trn := Eq.trans rfl rfl
theorem ex_fr (t : Tg) (k : Ik) (es : Exs) (b : Ss) : ex X (.fr t k es b) ρ O = (evs' X es ρ O).bd fun vs O1 => itB (mkIt k vs O1) fun it => loopI (itGet it) (foTurn X t b) TURNS 0 (.nx ρ) O1 := Eq.trans rfl rfl
def whTurn (X : Ctx) (c : Ex) (b : Ss) (f : Fl) (O1 : Store) : Res (Fl × Bool) := match f with
  | .nx ρ1 => (ev X c ρ1 O1).bd fun x O2 => tst x ((exs X b ρ1 O2).bd trn) (.ok (.nx ρ1, false) O2)
  | _ => .bad
theorem whTurn_nx (c : Ex) (b : Ss) : whTurn X c b (.nx ρ) O = (ev X c ρ O).bd fun x O2 => tst x ((exs X b ρ O2).bd trn) (.ok (.nx ρ, false) O2) := Eq.trans rfl rfl
theorem ex_whl (c : Ex) (b : Ss) : ex X (.whl c b) ρ O = loopW (whTurn X c b) TURNS (.nx ρ) O := Eq.trans rfl rfl
def cpEnd (acc : List Val) (y : Val) (O : Store) : Res (List Val × Bool) := match smallLen (acc.length + 1) with
  | true => .ok (y :: acc, true) O
  | false => .bad
def cpIf (X : Ctx) (elt : Ex) (ρ1 : Env) (acc : List Val) (b : Bool) (O4 : Store) : Res (List Val × Bool) := match b with
  | true => (ev X elt ρ1 O4).bd fun y O5 => embR (emb X.fz y O5) fun y' O6 => cpEnd acc y' O6
  | false => .ok (acc, true) O4
theorem cpIf_t (elt : Ex) (acc : List Val) : cpIf X elt ρ acc true O = (ev X elt ρ O).bd fun y O5 => embR (emb X.fz y O5) fun y' O6 => cpEnd acc y' O6 := Eq.trans rfl rfl
theorem cpIf_f (elt : Ex) (acc : List Val) : cpIf X elt ρ acc false O = .ok (acc, true) O := Eq.trans rfl rfl
def cpTurn (X : Ctx) (elt : Ex) (t : Tg) (cs : Exs) (ρ0 : Env) (v : Val) (acc : List Val) (O2 : Store) : Res (List Val × Bool) :=
  noX ((asg X t v ρ0 O2).bd fun ρ1 O3 => (conds X cs ρ1 O3).bd fun b O4 => cpIf X elt ρ1 acc b O4)
theorem ev_cmp1 (kp : Bool) (elt : Ex) (t : Tg) (k : Ik) (es cs : Exs) (ow : List Nat) : ev X (.cmp1 kp elt t k es cs ow) ρ O = (evs' X es ρ O).bd fun vs O1 => itB (mkIt k vs O1) fun it =>
    (loopI (itGet it) (cpTurn X elt t cs (wipe ρ ow)) TURNS 0 [] O1).bd fun acc O2 => ofO2 (newL kp acc.reverse O2) := Eq.trans rfl rfl
end

/-! ### values -/
section
variable {O : Store}
theorem close_non : close .non O = some (.non, O) := Eq.trans rfl rfl
theorem close_bl (b : Bool) : close (.bl b) O = some (.bl b, O) := Eq.trans rfl rfl
theorem close_int (i : Int) : close (.int i) O = some (.int i, O) := Eq.trans rfl rfl
theorem close_str (s : Str) : close (.str s) O = some (.str s, O) := Eq.trans rfl rfl
theorem close_tup (l : List Val) : close (.tup l) O = some (.tup l, O) := Eq.trans rfl rfl
theorem close_lst (l : List Val) : close (.lst l) O = some (.lst l, O) := Eq.trans rfl rfl
theorem close_obj (c : Nat) (l : List Val) : close (.obj c l) O = some (.obj c l, O) := Eq.trans rfl rfl
theorem close_fn (f : Nat) : close (.fn f) O = some (.fn f, O) := Eq.trans rfl rfl
theorem close_edic : close .edic O = some (.edic, O) := Eq.trans rfl rfl
theorem close_scr (l : List Val) : close (.scr l) O = some (.scr l, O) := Eq.trans rfl rfl
theorem close_of {v : Val} (h : isOwn v = false) : close v O = some (v, O) := by cases v <;> first | rfl | cases h
theorem emb_t (v : Val) : emb true v O = close v O := Eq.trans rfl rfl
theorem emb_f (v : Val) : emb false v O = some (v, O) := Eq.trans rfl rfl
variable {X : Ctx} {kp : Bool}
theorem bin_add (i j : Int) : binR X kp .add (.int i) (.int j) O = .ok (.int (i + j)) O := Eq.trans rfl rfl
theorem bin_sub (i j : Int) : binR X kp .sub (.int i) (.int j) O = .ok (.int (i - j)) O := Eq.trans rfl rfl
theorem bin_mul (i j : Int) (h : mulOk i j = true) : binR X kp .mul (.int i) (.int j) O = .ok (.int (i * j)) O := by
  show ofO2 (match mulOk i j with | true => some (Val.int (i * j), O) | false => none) = _
  rw [h]; rfl
def dvOk (i j : Int) : Bool := !(decide (j = 0) || Builtin.divisionGoesByPylong i j)
theorem bin_div (i j : Int) (h : dvOk i j = true) : binR X kp .fdiv (.int i) (.int j) O = .ok (.int (i.fdiv j)) O := by
  show ofO2 (match decide (j = 0) || Builtin.divisionGoesByPylong i j with | true => none | false => some (Val.int (i.fdiv j), O)) = _
  unfold dvOk at h
  rw [show (decide (j = 0) || Builtin.divisionGoesByPylong i j) = false by simpa using h]; rfl
theorem bin_mod (i j : Int) (h : j ≠ 0) : binR X kp .mod (.int i) (.int j) O = .ok (.int (i.fmod j)) O := by
  show ofO2 (match decide (j = 0) with | true => none | false => some (Val.int (i.fmod j), O)) = _
  rw [decide_eq_false h]; rfl
theorem bin_addt (x y : List Val) : binR X kp .add (.tup x) (.tup y) O = ofO2 (newT (x ++ y) O) := Eq.trans rfl rfl
theorem bin_addl (x y : List Val) : binR X kp .add (.lst x) (.lst y) O = ofO2 (newL kp (x ++ y) O) := Eq.trans rfl rfl
theorem binV_add (i j : Int) : binV kp .add (.int i) (.int j) O = some (.int (i + j), O) := Eq.trans rfl rfl
theorem binV_sub (i j : Int) : binV kp .sub (.int i) (.int j) O = some (.int (i - j), O) := Eq.trans rfl rfl
theorem binV_mul (i j : Int) (h : mulOk i j = true) : binV kp .mul (.int i) (.int j) O = some (.int (i * j), O) := by
  show (match mulOk i j with | true => some (Val.int (i * j), O) | false => none) = _
  rw [h]
theorem cmp_lt (i j : Int) : cmpV .lt (.int i) (.int j) O = some (decide (i < j)) := Eq.trans rfl rfl
theorem cmp_le (i j : Int) : cmpV .le (.int i) (.int j) O = some (decide (i ≤ j)) := Eq.trans rfl rfl
theorem cmp_gt (i j : Int) : cmpV .gt (.int i) (.int j) O = some (decide (j < i)) := Eq.trans rfl rfl
theorem cmp_ge (i j : Int) : cmpV .ge (.int i) (.int j) O = some (decide (j ≤ i)) := Eq.trans rfl rfl
theorem eqv_int (i j : Int) : PyData.eqv (PyData.int i) (PyData.int j) = decide (i = j) := by
  simp [PyData.eqv]
  try rfl
theorem cmp_eqi (i j : Int) : cmpV .eq (.int i) (.int j) O = some (decide (i = j)) := by
  show (match shapedB (PyData.int i) && shapedB (PyData.int j) with | true => some (PyData.eqv (PyData.int i) (PyData.int j)) | false => none) = _
  rw [eqv_int]; rfl
theorem cmp_nei (i j : Int) : cmpV .ne (.int i) (.int j) O = some (!decide (i = j)) := by
  show (match cmpV .eq (.int i) (.int j) O with | some r => some (!r) | none => none) = _
  rw [cmp_eqi]
theorem seqOf_tup (l : List Val) : seqOf O (.tup l) = some l := Eq.trans rfl rfl
theorem seqOf_lst (l : List Val) : seqOf O (.lst l) = some l := Eq.trans rfl rfl
theorem listOf_lst (l : List Val) : listOf O (.lst l) = some l := Eq.trans rfl rfl
theorem mkIt_tup (l : List Val) : mkIt .seq [.tup l] O = some (.seq (.tup l)) := Eq.trans rfl rfl
theorem mkIt_lst (l : List Val) : mkIt .seq [.lst l] O = some (.seq (.lst l)) := Eq.trans rfl rfl
theorem get_tup (l : List Val) (i : Nat) : itGet (.seq (.tup l)) i O = some l[i]? := Eq.trans rfl rfl
theorem get_lst (l : List Val) (i : Nat) : itGet (.seq (.lst l)) i O = some l[i]? := Eq.trans rfl rfl
theorem mkIt_rng (n : Int) (h : rngOk n = true) : mkIt .rng [.int n] O = some (.rng 0 1 n.toNat) := by
  show (match rngOk n with | true => some (It.rng 0 1 n.toNat) | false => none) = _
  rw [h]
theorem mkIt_rng2 (a n : Int) (h : rngOk a = true) (h' : rngOk n = true) : mkIt .rng [.int a, .int n] O = some (.rng a 1 (n - a).toNat) := by
  show (match rngOk a && rngOk n with | true => some (It.rng a 1 (n - a).toNat) | false => none) = _
  rw [h, h']; rfl
end
theorem rng_get (lo : Int) (n i : Nat) (O : Store) : itGet (.rng lo 1 n) i O = some ((List.range n).map fun (k : Nat) => Val.int (lo + (k : Int)))[i]? := by
  show (match Nat.blt i n with | true => some (some (Val.int (lo + i * 1))) | false => some none) = _
  by_cases h : i < n
  · rw [show Nat.blt i n = true from by simpa [Nat.blt_eq] using h]
    simp [List.getElem?_map, List.getElem?_range, h]
  · rw [show Nat.blt i n = false from by
      cases e : Nat.blt i n
      · rfl
      · exact absurd (by simpa [Nat.blt_eq] using e) h]
    simp [List.getElem?_map, h]

/-! ### the loops' ends -/
theorem loop_inv {α : Type} {get : Nat → Store → Option (Option Val)} {turn : Val → α → Store → Res (α × Bool)} (l : List Val) (I : Nat → α → Store → Prop)
    (hget : ∀ (i : Nat) (a : α) (O : Store), i ≤ l.length → I i a O → get i O = some l[i]?) (hturn : ∀ i a O v, l[i]? = some v → I i a O → ∃ a' O', turn v a O = .ok (a', true) O' ∧ I (i + 1) a' O') :
    ∀ n i a O, l.length - i < n → i ≤ l.length → I i a O → ∃ a' O', loopI get turn n i a O = .ok a' O' ∧ I l.length a' O'
  | 0, i, a, O, h, _, _ => by omega
  | n + 1, i, a, O, h, hi, hI => by
    have hg := hget i a O hi hI
    have un : loopI get turn (n + 1) i a O = (match get i O with
      | none => .bad
      | some none => .ok a O
      | some (some v) => (turn v a O).bd fun p O1 => match p.2 with
        | true => loopI get turn n (i + 1) p.1 O1
        | false => .ok p.1 O1) := Eq.trans rfl rfl
    rw [un, hg]
    by_cases h2 : i < l.length
    · rw [List.getElem?_eq_getElem h2]
      obtain ⟨a', O', e1, e2⟩ := hturn i a O _ (List.getElem?_eq_getElem h2) hI
      dsimp only
      rw [e1, bind_ok]
      exact loop_inv l I hget hturn n (i + 1) a' O' (by omega) h2 e2
    · have e : i = l.length := by omega
      subst e
      rw [List.getElem?_eq_none (Nat.le_refl _)]
      exact ⟨a, O, rfl, hI⟩
theorem turns_big {n : Nat} (h : n ≤ 16777216) : n - 0 < TURNS := by unfold TURNS; omega
/-- a loop that folds -/
theorem loop_fold {α β : Type} {get : Nat → Store → Option (Option Val)} {turn : Val → α → Store → Res (α × Bool)} {l : List Val} {O : Store} (R : β → α → Prop) (g : β → Val → β) (P : β → Prop)
    (hl : l.length ≤ 16777216) (hget : ∀ i, i ≤ l.length → get i O = some l[i]?) (hturn : ∀ b a v, v ∈ l → P b → R b a → ∃ a', turn v a O = .ok (a', true) O ∧ R (g b v) a' ∧ P (g b v)) {b : β} {a : α} (hb : P b) (hr : R b a) :
    ∃ a', loopI get turn TURNS 0 a O = .ok a' O ∧ R (l.foldl g b) a' ∧ P (l.foldl g b) := by
  obtain ⟨a', O', e, e1, e2, e3⟩ := loop_inv (get := get) l (fun i a' O' => O' = O ∧ R ((l.take i).foldl g b) a' ∧ P ((l.take i).foldl g b)) (fun i a O' hi h => by rw [h.1]; exact hget i hi) (fun i a' O' v hv ⟨h1, h2, h3⟩ => by
    subst h1
    have hm := List.mem_of_getElem? hv
    obtain ⟨a2, e1, e2, e3⟩ := hturn _ a' v hm h3 h2
    refine ⟨a2, _, e1, rfl, ?_⟩
    rw [List.take_add_one, hv]
    simp only [Option.toList_some, List.foldl_append, List.foldl_cons, List.foldl_nil]
    exact ⟨e2, e3⟩) TURNS 0 a O (turns_big hl) (Nat.zero_le _) ⟨rfl, by simpa using hr, by simpa using hb⟩
  rw [List.take_length] at e2 e3
  exact ⟨a', by rw [e, e1], e2, e3⟩
theorem smallLen_of {n : Nat} (h : n ≤ 16777216) : smallLen n = true := by unfold smallLen; exact Nat.ble_eq_true_of_le h
/-- a comprehension whose parts are told -/
theorem comp_fold {X : Ctx} {elt : Ex} {t : Tg} {cs : Exs} {ρ0 : Env} {get : Nat → Store → Option (Option Val)} {l : List Val} {O : Store} (p : Val → Bool) (g : Val → Val)
    (hl : l.length < 16777216) (hget : ∀ i, i ≤ l.length → get i O = some l[i]?) (hturn : ∀ v, v ∈ l → ∀ acc : List Val, acc.length < 16777216 → cpTurn X elt t cs ρ0 v acc O = .ok (match p v with | true => g v :: acc | false => acc, true) O) :
    loopI get (cpTurn X elt t cs ρ0) TURNS 0 [] O = .ok ((l.filter p).map g).reverse O := by
  obtain ⟨a', O', e, e1, e2⟩ := loop_inv (get := get) l (fun i a' O' => O' = O ∧ a' = (((l.take i).filter p).map g).reverse) (fun i a O' hi h => by rw [h.1]; exact hget i hi) (fun i a' O' v hv ⟨h1, h2⟩ => by
    subst h1
    have hm := List.mem_of_getElem? hv
    have hlen : a'.length < 16777216 := by
      rw [h2, List.length_reverse, List.length_map]
      have h3 := List.length_filter_le p (l.take i)
      have h4 : (l.take i).length ≤ l.length := by rw [List.length_take]; omega
      omega
    refine ⟨_, _, hturn v hm a' hlen, rfl, ?_⟩
    rw [List.take_add_one, hv, h2]
    simp only [Option.toList_some, List.filter_append, List.map_append, List.reverse_append]
    cases hp : p v with
    | true => simp [hp]
    | false => simp [hp]) TURNS 0 [] O (turns_big (by omega)) (Nat.zero_le _) ⟨rfl, by simp⟩
  rw [e, e1, e2, List.take_length]
theorem cpEnd_ok {acc : List Val} {y : Val} {O : Store} (h : acc.length < 16777216) : cpEnd acc y O = .ok (y :: acc, true) O := by
  unfold cpEnd
  rw [smallLen_of h]

theorem wipe_nil (ρ : Env) : wipe ρ [] = ρ := Eq.trans rfl rfl
theorem wipe_cons (ρ : Env) (i : Nat) (r : List Nat) : wipe ρ (i :: r) = (wipe ρ r).set i none := Eq.trans rfl rfl
/-! ### calls -/
def StOk (O : Store) : Prop := cellsLt O.length O = true
theorem call_eq {P : Pg} {f d : Nat} {F : Fn} {vs : List Val} {ρ : Env} {O : Store} (h : P.fns[f]? = some F) (hs : startEnv F vs = some ρ) : callAt P (d + 1) f vs O = runF ⟨P, F.fz, callAt P d, callLAt P d, fun _ => .bad⟩ F ρ O := by
  show (match P.fns[f]? with
      | some F => match startEnv F vs with
        | some ρ => runF ⟨P, F.fz, callAt P d, callLAt P d, fun _ => .bad⟩ F ρ O
        | none => .bad
      | none => .bad) = _
  rw [h]
  dsimp only
  rw [hs]
theorem run_rt {X : Ctx} {F : Fn} {ρ : Env} {O O1 : Store} {v : Val} (h : exs X F.body ρ O = .ok (.rt v) O1) : runF X F ρ O = leave O.length F.keep v O1 := by
  unfold runF; rw [h]
theorem run_nx {X : Ctx} {F : Fn} {ρ ρ' : Env} {O O1 : Store} (h : exs X F.body ρ O = .ok (.nx ρ') O1) : runF X F ρ O = leave O.length F.keep .non O1 := by
  unfold runF; rw [h]
theorem run_exc {X : Ctx} {F : Fn} {ρ : Env} {O : Store} {c : Nat} {O1 : Store} (h : exs X F.body ρ O = .exc c [] O1) (ht : O1.take O.length = O) (hO : StOk O) : runF X F ρ O = .exc c [] O := by
  unfold runF; rw [h]
  have e : (ltAll O.length [] && cellsLt O.length (O1.take O.length)) = true := by rw [ht]; exact hO
  dsimp only
  rw [e, ht]
/-- a value without live lists -/
theorem leave_pure {O O1 : Store} {v : Val} (h : isOwn v = false) (hv : v.lt O.length = true) (ht : O1.take O.length = O) (hO : StOk O) : leave O.length false v O1 = .ok v O := by
  unfold leave
  rw [close_of h]
  dsimp only
  have e : (v.lt O.length && cellsLt O.length (O1.take O.length)) = true := by rw [ht, hv]; exact hO
  rw [e, ht]
/-- a live list of its own, closed -/
theorem leave_own {O O1 : Store} {k : Nat} {l : List Val} {b : Bool} (hk : O1[k]? = some (.lst b l)) (hl : anyOwn l = false) (hv : ltAll O.length l = true) (hge : O.length ≤ k) (ht : O1.take O.length = O) (hO : StOk O) : leave O.length false (.own k) O1 = .ok (.lst l) O := by
  unfold leave close
  dsimp only
  rw [hk]
  dsimp only
  rw [hl]
  dsimp only
  have t2 : (O1.set k (.lst false l)).take O.length = O := by
    rw [List.take_set, List.set_eq_of_length_le, ht]
    rw [ht]; exact hge
  have e : ((Val.lst l).lt O.length && cellsLt O.length ((O1.set k (.lst false l)).take O.length)) = true := by
    rw [t2]
    show (ltAll O.length l && cellsLt O.length O) = true
    rw [hv]; exact hO
  rw [e, t2]
theorem lt_ints (n : Nat) : ∀ l : List Int, ltAll n (l.map .int) = true
  | [] => rfl
  | i :: r => by
    show ((Val.int i).lt n && ltAll n (r.map .int)) = true
    rw [lt_ints n r]; rfl
theorem anyOwn_ints : ∀ l : List Int, anyOwn (l.map .int) = false
  | [] => rfl
  | i :: r => by
    show (isOwn (.int i) || anyOwn (r.map .int)) = false
    rw [anyOwn_ints r]; rfl
theorem intsOf_map : ∀ l : List Int, intsOf (l.map .int) = some l
  | [] => rfl
  | i :: r => by
    show (match intsOf (r.map .int) with | some l => some (i :: l) | none => none) = _
    rw [intsOf_map r]
theorem newL_f {l : List Val} {O : Store} (h : l.length ≤ 16777216) (ho : anyOwn l = false) : newL false l O = some (.lst l, O) := by
  unfold newL
  rw [smallLen_of h]
  dsimp only
  rw [ho]
theorem newT_ok {l : List Val} {O : Store} (h : l.length ≤ 16777216) : newT l O = some (.tup l, O) := by
  unfold newT
  rw [smallLen_of h]
end Mn
namespace Mn
open PySem
/-! ### a def's end -/
def endR (O : Store) (keep : Bool) (r : Res Fl) : Res Val := match r with
  | .ok (.rt v) O1 => leave O.length keep v O1
  | .ok (.nx _) O1 => leave O.length keep .non O1
  | .ok _ _ => .bad
  | .exc c p O1 => match ltAll O.length p && cellsLt O.length (O1.take O.length) with
    | true => .exc c p (O1.take O.length)
    | false => .exc c p O1
  | .bad => .bad
theorem runF_eq (X : Ctx) (F : Fn) (ρ : Env) (O : Store) : runF X F ρ O = endR O F.keep (exs X F.body ρ O) := Eq.trans rfl rfl
theorem call_run {P : Pg} {f d : Nat} {F : Fn} {vs : List Val} {ρ : Env} {O : Store} (h : P.fns[f]? = some F) (hs : startEnv F vs = some ρ) : callAt P (d + 1) f vs O = endR O F.keep (exs ⟨P, F.fz, callAt P d, callLAt P d, fun _ => .bad⟩ F.body ρ O) := by
  rw [call_eq h hs, runF_eq]
section
variable {O O1 : Store} {k : Bool}
theorem endR_rt (v : Val) : endR O k (.ok (.rt v) O1) = leave O.length k v O1 := Eq.trans rfl rfl
theorem endR_nx (ρ : Env) : endR O k (.ok (.nx ρ) O1) = leave O.length k .non O1 := Eq.trans rfl rfl
theorem endR_exc (c : Nat) (hO : StOk O) : endR O k (.exc c [] O) = .exc c [] O := by
  show (match ltAll O.length [] && cellsLt O.length (O.take O.length) with
    | true => Res.exc c [] (O.take O.length)
    | false => Res.exc c [] O) = _
  have e : (ltAll O.length [] && cellsLt O.length (O.take O.length)) = true := by rw [List.take_length]; exact hO
  rw [e, List.take_length]
theorem leave_v {v : Val} (hO : StOk O) (h : isOwn v = false) (hv : v.lt O.length = true) : leave O.length false v O = .ok v O := leave_pure h hv (List.take_length) hO
theorem leave_non (hO : StOk O) : leave O.length false .non O = .ok .non O := leave_v hO rfl rfl
theorem leave_bl (b : Bool) (hO : StOk O) : leave O.length false (.bl b) O = .ok (.bl b) O := leave_v hO rfl rfl
theorem leave_int (i : Int) (hO : StOk O) : leave O.length false (.int i) O = .ok (.int i) O := leave_v hO rfl rfl
theorem leave_str (i : Str) (hO : StOk O) : leave O.length false (.str i) O = .ok (.str i) O := leave_v hO rfl rfl
theorem leave_tup (l : List Val) (hO : StOk O) (hl : ltAll O.length l = true) : leave O.length false (.tup l) O = .ok (.tup l) O := leave_v hO rfl hl
theorem leave_lst (l : List Val) (hO : StOk O) (hl : ltAll O.length l = true) : leave O.length false (.lst l) O = .ok (.lst l) O := leave_v hO rfl hl
theorem leave_obj (c : Nat) (l : List Val) (hO : StOk O) (hl : ltAll O.length l = true) : leave O.length false (.obj c l) O = .ok (.obj c l) O := leave_v hO rfl hl
end
theorem lt_nil (n : Nat) : ltAll n [] = true := Eq.trans rfl rfl
theorem lt_cons (n : Nat) (v : Val) (r : List Val) : ltAll n (v :: r) = (v.lt n && ltAll n r) := Eq.trans rfl rfl
theorem vlt_int (n : Nat) (i : Int) : (Val.int i).lt n = true := Eq.trans rfl rfl
theorem vlt_bl (n : Nat) (i : Bool) : (Val.bl i).lt n = true := Eq.trans rfl rfl
theorem vlt_str (n : Nat) (i : Str) : (Val.str i).lt n = true := Eq.trans rfl rfl
theorem vlt_non (n : Nat) : Val.non.lt n = true := Eq.trans rfl rfl
theorem vlt_tup (n : Nat) (l : List Val) : (Val.tup l).lt n = ltAll n l := Eq.trans rfl rfl
theorem vlt_lst (n : Nat) (l : List Val) : (Val.lst l).lt n = ltAll n l := Eq.trans rfl rfl
theorem vlt_obj (n c : Nat) (l : List Val) : (Val.obj c l).lt n = ltAll n l := Eq.trans rfl rfl
theorem blt_gcd (kp : Bool) (i j : Int) (O : Store) : bltV .gcd kp [.int i, .int j] O = some (.int (gcdI i j), O) := Eq.trans rfl rfl
theorem blt_abs (kp : Bool) (i : Int) (O : Store) : bltV .abs kp [.int i] O = some (.int i.natAbs, O) := Eq.trans rfl rfl
theorem blt_toInt (kp : Bool) (i : Int) (O : Store) : bltV .toInt kp [.int i] O = some (.int i, O) := Eq.trans rfl rfl
theorem blt_toIntb (kp : Bool) (b : Bool) (O : Store) : bltV .toInt kp [.bl b] O = some (.int (match b with | true => 1 | false => 0), O) := Eq.trans rfl rfl
theorem blt_min (kp : Bool) (i j : Int) (O : Store) : bltV .min kp [.int i, .int j] O = some (.int (if j < i then j else i), O) := Eq.trans rfl rfl
theorem blt_max (kp : Bool) (i j : Int) (O : Store) : bltV .max kp [.int i, .int j] O = some (.int (if i < j then j else i), O) := Eq.trans rfl rfl
theorem blt_lent (kp : Bool) (l : List Val) (O : Store) : bltV .len kp [.tup l] O = some (.int l.length, O) := Eq.trans rfl rfl
theorem blt_lenl (kp : Bool) (l : List Val) (O : Store) : bltV .len kp [.lst l] O = some (.int l.length, O) := Eq.trans rfl rfl
theorem blt_lens (kp : Bool) (l : List Val) (O : Store) : bltV .len kp [.scr l] O = some (.int l.length, O) := Eq.trans rfl rfl
theorem blt_tupl (kp : Bool) (l : List Val) (O : Store) (h : anyOwn l = false) : bltV .tuple kp [.lst l] O = newT l O := by
  show (match anyOwn l with | false => newT l O | true => none) = _
  rw [h]
theorem blt_tupt (kp : Bool) (l : List Val) (O : Store) (h : anyOwn l = false) : bltV .tuple kp [.tup l] O = newT l O := by
  show (match anyOwn l with | false => newT l O | true => none) = _
  rw [h]
theorem blt_listt (kp : Bool) (l : List Val) (O : Store) : bltV .list kp [.tup l] O = newL kp l O := Eq.trans rfl rfl
theorem blt_listl (kp : Bool) (l : List Val) (O : Store) : bltV .list kp [.lst l] O = newL kp l O := Eq.trans rfl rfl
end Mn
namespace Mn
open PySem
theorem newT0 (O : Store) : newT [] O = some (.tup [], O) := Eq.trans rfl rfl
theorem newT1 (a : Val) (O : Store) : newT [a] O = some (.tup [a], O) := Eq.trans rfl rfl
theorem newT2 (a b : Val) (O : Store) : newT [a, b] O = some (.tup [a, b], O) := Eq.trans rfl rfl
theorem newT3 (a b c : Val) (O : Store) : newT [a, b, c] O = some (.tup [a, b, c], O) := Eq.trans rfl rfl
theorem newT4 (a b c e : Val) (O : Store) : newT [a, b, c, e] O = some (.tup [a, b, c, e], O) := Eq.trans rfl rfl
theorem newT5 (a b c e f : Val) (O : Store) : newT [a, b, c, e, f] O = some (.tup [a, b, c, e, f], O) := Eq.trans rfl rfl
theorem newL0 (O : Store) : newL false [] O = some (.lst [], O) := Eq.trans rfl rfl
theorem newLk (l : List Val) (O : Store) (h : l.length ≤ 16777216) : newL true l O = some (.own O.length, O ++ [.lst true l]) := by
  unfold newL
  rw [smallLen_of h]
theorem newL0k (O : Store) : newL true [] O = some (.own O.length, O ++ [.lst true []]) := Eq.trans rfl rfl
theorem newL1k (a : Val) (O : Store) : newL true [a] O = some (.own O.length, O ++ [.lst true [a]]) := Eq.trans rfl rfl
theorem newL3k (a b c : Val) (O : Store) : newL true [a, b, c] O = some (.own O.length, O ++ [.lst true [a, b, c]]) := Eq.trans rfl rfl

/-! ### sizes -/
def Sm (n : Nat) (i : Int) : Prop := i.natAbs < 2 ^ n
theorem Sm.mono {n m : Nat} {i : Int} (h : Sm n i) (hm : n ≤ m) : Sm m i := Nat.lt_of_lt_of_le h (Nat.pow_le_pow_right (by decide) hm)
theorem Sm.mul {n m : Nat} {i j : Int} (h : Sm n i) (h' : Sm m j) : Sm (n + m) (i * j) := by
  unfold Sm at *
  rw [Int.natAbs_mul, Nat.pow_add]
  exact Nat.mul_lt_mul'' h h'
theorem Sm.add {n : Nat} {i j : Int} (h : Sm n i) (h' : Sm n j) : Sm (n + 1) (i + j) := by
  unfold Sm at *
  have := Int.natAbs_add_le i j
  rw [Nat.pow_succ]
  omega
theorem Sm.neg {n : Nat} {i : Int} (h : Sm n i) : Sm n (-i) := by unfold Sm at *; rwa [Int.natAbs_neg]
theorem Sm.sub {n : Nat} {i j : Int} (h : Sm n i) (h' : Sm n j) : Sm (n + 1) (i - j) := by
  rw [Int.sub_eq_add_neg]; exact h.add h'.neg
theorem Sm.log {n : Nat} {i : Int} (h : Sm n i) (hn : 0 < n) : i.natAbs.log2 < n := by
  by_cases h0 : i.natAbs = 0
  · rw [h0]; simpa using hn
  · exact (Nat.log2_lt h0).mpr h
theorem mulOk_sm {n m : Nat} {i j : Int} (h : Sm n i) (h' : Sm m j) (hn : n + m < 99999990) : mulOk i j = true := by
  unfold mulOk
  have a := (h.mono (Nat.le_succ n)).log (Nat.succ_pos _)
  have b := (h'.mono (Nat.le_succ m)).log (Nat.succ_pos _)
  simp only [Nat.blt_eq]
  omega
theorem dvOk_sm {n : Nat} {i j : Int} (h : Sm n j) (hn : n < 8990) (h0 : j ≠ 0) : dvOk i j = true := by
  unfold dvOk
  have a := (h.mono (Nat.le_succ n)).log (Nat.succ_pos _)
  rw [PyProof.noPylong_of_log2 (y := j) (x := i) (by omega), decide_eq_false h0]; rfl
theorem Sm.fdiv {n : Nat} {i j : Int} (h : Sm n i) : Sm n (i.fdiv j) := by
  unfold Sm at *
  refine Nat.lt_of_le_of_lt ?_ h
  by_cases h0 : j = 0
  · subst h0; simp
  · exact Int.natAbs_fdiv_le_natAbs i j
theorem Sm.ofNat {n : Nat} {k : Nat} (h : k < 2 ^ n) : Sm n (k : Int) := by unfold Sm; simpa using h
end Mn

namespace Mn
/-! ### enumerate, zip -/
def zipV (l m : List Val) : List Val := (l.zip m).map fun p => .tup [p.1, p.2]
def enmV (l : List Val) : List Val := l.zipIdx.map fun p => .tup [.int (p.2 : Nat), p.1]
theorem zipV_len (l m : List Val) : (zipV l m).length = min l.length m.length := by unfold zipV; rw [List.length_map, List.length_zip]
theorem enmV_len (l : List Val) : (enmV l).length = l.length := by unfold enmV; rw [List.length_map, List.length_zipIdx]
theorem zip_get {a b : Val} {l m : List Val} {O : Store} (ha : seqOf O a = some l) (hb : seqOf O b = some m) (i : Nat) (hi : i ≤ (zipV l m).length) : itGet (.zip a b) i O = some (zipV l m)[i]? := by
  show (match seqOf O a, seqOf O b with
    | some l, some m => match l[i]?, m[i]? with
      | some x, some y => some (some (Val.tup [x, y]))
      | _, _ => match Nat.ble i l.length && Nat.ble i m.length with
        | true => some none
        | false => none
    | _, _ => none) = _
  rw [ha, hb]
  dsimp only
  rw [zipV_len] at hi
  by_cases h : i < min l.length m.length
  · have h1 : i < l.length := by omega
    have h2 : i < m.length := by omega
    rw [List.getElem?_eq_getElem h1, List.getElem?_eq_getElem h2]
    unfold zipV
    rw [List.getElem?_map, List.getElem?_eq_getElem (by rw [List.length_zip]; omega)]
    simp
  · have e : (zipV l m)[i]? = none := List.getElem?_eq_none (by rw [zipV_len]; omega)
    rw [e]
    have hb : (Nat.ble i l.length && Nat.ble i m.length) = true := by
      rw [Nat.ble_eq_true_of_le (by omega), Nat.ble_eq_true_of_le (by omega)]; rfl
    rw [hb]
    by_cases h1 : i < l.length
    · rw [List.getElem?_eq_none (l := m) (by omega)]
      cases l[i]? <;> rfl
    · rw [List.getElem?_eq_none (l := l) (by omega)]
theorem enm_get {a : Val} {l : List Val} {O : Store} (ha : seqOf O a = some l) (i : Nat) (hi : i ≤ (enmV l).length) : itGet (.enm a) i O = some (enmV l)[i]? := by
  show (match seqOf O a with
    | some l => match l[i]? with
      | some x => some (some (Val.tup [.int i, x]))
      | none => match Nat.beq i l.length with
        | true => some none
        | false => none
    | none => none) = _
  rw [ha]
  dsimp only
  rw [enmV_len] at hi
  by_cases h : i < l.length
  · rw [List.getElem?_eq_getElem h]
    unfold enmV
    rw [List.getElem?_map, List.getElem?_eq_getElem (by rw [List.length_zipIdx]; exact h)]
    simp
  · have e : i = l.length := by omega
    subst e
    rw [List.getElem?_eq_none (Nat.le_refl _), List.getElem?_eq_none (by rw [enmV_len]; exact Nat.le_refl _)]
    have hb : Nat.beq l.length l.length = true := Nat.beq_refl _
    rw [hb]
theorem zipV_ints (l m : List Int) : zipV (l.map .int) (m.map .int) = (l.zip m).map fun p => .tup [.int p.1, .int p.2] := by
  unfold zipV
  rw [List.zip_map, List.map_map]
  rfl
theorem enmV_ints (l : List Int) : enmV (l.map .int) = l.zipIdx.map fun p => .tup [.int (p.2 : Nat), .int p.1] := by
  unfold enmV
  rw [List.zipIdx_map, List.map_map]
  rfl
theorem mkIt_zip {a b : Val} {l m : List Val} {O : Store} (ha : seqOf O a = some l) (hb : seqOf O b = some m) : mkIt .zip [a, b] O = some (.zip a b) := by
  show (match seqOf O a, seqOf O b with | some _, some _ => some (It.zip a b) | _, _ => none) = _
  rw [ha, hb]
theorem mkIt_enm {a : Val} {l : List Val} {O : Store} (ha : seqOf O a = some l) : mkIt .enm [a] O = some (.enm a) := by
  show (match seqOf O a with | some _ => some (It.enm a) | none => none) = _
  rw [ha]
/-! ### subscripts -/
def nth (l : List Int) (i : Nat) : Int := l.getD i 0
theorem atI_ints {l : List Int} {i : Nat} (h : i < l.length) : L2.atI (l.map Val.int) (i : Int) = some (.int (nth l i)) := by
  refine L2.atI_nat ?_
  rw [List.getElem?_map, List.getElem?_eq_getElem h]
  unfold nth
  rw [List.getD_eq_getElem?_getD, List.getElem?_eq_getElem h]; rfl
theorem idx_lst {l : List Val} {i : Int} {O : Store} : idxV (.lst l) (.int i) O = L2.atI l i := Eq.trans rfl rfl
theorem idx_tup {l : List Val} {i : Int} {O : Store} : idxV (.tup l) (.int i) O = L2.atI l i := Eq.trans rfl rfl
theorem nth_mem {l : List Int} {i : Nat} (h : i < l.length) : nth l i ∈ l := by
  unfold nth
  rw [List.getD_eq_getElem?_getD, List.getElem?_eq_getElem h]
  exact List.getElem_mem h
end Mn
namespace Mn
/-! ### live lists -/
mutual
theorem Val.lt_mono {n m : Nat} (h : n ≤ m) : ∀ v : Val, v.lt n = true → v.lt m = true
  | .own k, e => by
    have e' : Nat.blt k n = true := e
    show Nat.blt k m = true
    rw [Nat.blt_eq] at e' ⊢
    omega
  | .tup l, e => ltAll_mono h l e
  | .lst l, e => ltAll_mono h l e
  | .scr l, e => ltAll_mono h l e
  | .obj _ l, e => ltAll_mono h l e
  | .exn _ l, e => ltAll_mono h l e
  | .non, _ => rfl
  | .bl _, _ => rfl
  | .int _, _ => rfl
  | .str _, _ => rfl
  | .fn _, _ => rfl
  | .edic, _ => rfl
theorem ltAll_mono {n m : Nat} (h : n ≤ m) : ∀ l : List Val, ltAll n l = true → ltAll m l = true
  | [], _ => rfl
  | v :: r, e => by
    have e' : (v.lt n && ltAll n r) = true := e
    rw [Bool.and_eq_true] at e'
    show (v.lt m && ltAll m r) = true
    rw [Val.lt_mono h v e'.1, ltAll_mono h r e'.2]; rfl
end
theorem ltOpt_mono {n m : Nat} (h : n ≤ m) : ∀ l : List (Option Val), ltOpt n l = true → ltOpt m l = true
  | [], _ => rfl
  | some v :: r, e => by
    have e' : (v.lt n && ltOpt n r) = true := e
    rw [Bool.and_eq_true] at e'
    show (v.lt m && ltOpt m r) = true
    rw [Val.lt_mono h v e'.1, ltOpt_mono h r e'.2]; rfl
  | none :: r, e => ltOpt_mono (n := n) h r e
theorem Cell.lt_mono {n m : Nat} (h : n ≤ m) : ∀ c : Cell, c.lt n = true → c.lt m = true
  | .lst _ l, e => ltAll_mono h l e
  | .ins _ fs, e => ltOpt_mono h fs e
theorem cellsLt_mono {n m : Nat} (h : n ≤ m) : ∀ O : Store, cellsLt n O = true → cellsLt m O = true
  | [], _ => rfl
  | c :: r, e => by
    have e' : (c.lt n && cellsLt n r) = true := e
    rw [Bool.and_eq_true] at e'
    show (c.lt m && cellsLt m r) = true
    rw [Cell.lt_mono h c e'.1, cellsLt_mono h r e'.2]; rfl
theorem cellsLt_append {n : Nat} : ∀ (O P : Store), cellsLt n (O ++ P) = (cellsLt n O && cellsLt n P)
  | [], P => rfl
  | c :: r, P => by
    show (c.lt n && cellsLt n (r ++ P)) = ((c.lt n && cellsLt n r) && cellsLt n P)
    rw [cellsLt_append r P, Bool.and_assoc]
theorem cellsLt_set {n : Nat} {c : Cell} (hc : c.lt n = true) : ∀ (O : Store) (k : Nat), cellsLt n O = true → cellsLt n (O.set k c) = true
  | [], _, _ => rfl
  | d :: r, 0, e => by
    have e' : (d.lt n && cellsLt n r) = true := e
    rw [Bool.and_eq_true] at e'
    show (c.lt n && cellsLt n r) = true
    rw [hc, e'.2]; rfl
  | d :: r, k + 1, e => by
    have e' : (d.lt n && cellsLt n r) = true := e
    rw [Bool.and_eq_true] at e'
    show (d.lt n && cellsLt n (r.set k c)) = true
    rw [e'.1, cellsLt_set hc r k e'.2]; rfl
theorem StOk.push {O : Store} {c : Cell} (h : StOk O) (hc : c.lt (O.length + 1) = true) : StOk (O ++ [c]) := by
  unfold StOk at *
  rw [cellsLt_append, List.length_append]
  rw [cellsLt_mono (n := O.length) (m := O.length + [c].length) (by omega) O h]
  show (true && (c.lt (O.length + 1) && true)) = true
  rw [hc]; rfl
theorem StOk.set {O : Store} {c : Cell} {k : Nat} (h : StOk O) (hc : c.lt O.length = true) : StOk (O.set k c) := by
  unfold StOk at *
  rw [List.length_set]
  exact cellsLt_set hc O k h
section
variable {O : Store} {k : Nat} {l : List Val} {b : Bool}
theorem seqOf_own (h : O[k]? = some (.lst b l)) : seqOf O (.own k) = some l := by
  show (match O[k]? with | some (.lst _ l) => some l | _ => none) = _
  rw [h]
theorem listOf_own (h : O[k]? = some (.lst b l)) : listOf O (.own k) = some l := by
  show (match O[k]? with | some (.lst _ l) => some l | _ => none) = _
  rw [h]
theorem mkIt_own (h : O[k]? = some (.lst b l)) : mkIt .seq [.own k] O = some (.seq (.own k)) := by
  show (match seqOf O (.own k) with | some _ => some (It.seq (.own k)) | none => none) = _
  rw [seqOf_own h]
theorem get_own (h : O[k]? = some (.lst b l)) (i : Nat) : itGet (.seq (.own k)) i O = some l[i]? := by
  show (match seqOf O (.own k) with | some l => some l[i]? | none => none) = _
  rw [seqOf_own h]
theorem liveOf_own (h : O[k]? = some (.lst true l)) : liveOf O (.own k) = some (k, l) := by
  show (match O[k]? with | some (.lst true l) => some (k, l) | _ => none) = _
  rw [h]
theorem ixN_nat {n i : Nat} (h : i < n) : L2.ixN n (i : Int) = some i := by
  unfold L2.ixN
  rw [if_pos (by omega), if_pos (by omega)]; simp
theorem pop_own {fz : Bool} {i : Nat} {v : Val} (h : O[k]? = some (.lst true l)) (hv : l[i]? = some v) : mthV .pop fz (.own k) [.int i] O = some (v, O.set k (.lst true (l.eraseIdx i))) := by
  show (match liveOf O (.own k) with
    | some (k, l) => match L2.ixN l.length (i : Int) with
      | some j => match l[j]? with
        | some v => some (v, O.set k (.lst true (l.eraseIdx j)))
        | none => none
      | none => none
    | none => none) = _
  rw [liveOf_own h]
  dsimp only
  rw [ixN_nat (List.getElem?_eq_some_iff.mp hv).1]
  dsimp only
  rw [hv]
theorem append_own {v : Val} (h : O[k]? = some (.lst true l)) (hv : isOwn v = false) (hl : l.length < 16777216) : mthV .append true (.own k) [v] O = some (.non, O.set k (.lst true (l ++ [v]))) := by
  show (match emb true v O with
    | some (v', O1) => match liveOf O1 (.own k) with
      | some (k, l) => match smallLen (l.length + 1) with | true => some (Val.non, O1.set k (.lst true (l ++ [v']))) | false => none
      | none => none
    | none => none) = _
  rw [emb_t, close_of hv]
  dsimp only
  rw [liveOf_own h]
  dsimp only
  rw [smallLen_of hl]
theorem setV_own {i : Nat} {v : Val} (h : O[k]? = some (.lst true l)) (hv : isOwn v = false) (hi : i < l.length) : setV true (.own k) (.int i) v O = some (O.set k (.lst true (l.set i v))) := by
  show (match emb true v O with
    | some (v', O1) => match liveOf O1 (.own k) with
      | some (k, l) => match L2.ixN l.length (i : Int) with
        | some j => some (O1.set k (.lst true (l.set j v')))
        | none => none
      | none => none
    | none => none) = _
  rw [emb_t, close_of hv]
  dsimp only
  rw [liveOf_own h]
  dsimp only
  rw [ixN_nat hi]
theorem idx_own {i : Int} (h : O[k]? = some (.lst b l)) : idxV (.own k) (.int i) O = L2.atI l i := by
  show (match seqOf O (.own k) with | some l => L2.atI l i | none => none) = _
  rw [seqOf_own h]
theorem idxL_own {i : Int} (h : O[k]? = some (.lst b l)) : idxL (.own k) (.int i) O = L2.atI l i := by
  show (match listOf O (.own k), Val.int i with | some l, .int n => L2.atI l n | _, _ => none) = _
  rw [listOf_own h]
end
theorem get_last {O : Store} {c : Cell} : (O ++ [c])[O.length]? = some c := by simp
theorem loop_nil {α : Type} {get : Nat → Store → Option (Option Val)} {turn : Val → α → Store → Res (α × Bool)} {a : α} {O : Store} (h : get 0 O = some none) : loopI get turn TURNS 0 a O = .ok a O := by
  have : TURNS = 18446744073709551615 + 1 := by unfold TURNS; rfl
  rw [this]
  show (match get 0 O with
    | none => Res.bad
    | some none => Res.ok a O
    | some (some v) => _) = _
  rw [h]
/-! ### equality of lists of numbers -/
theorem dataAll_ints (O : Store) : ∀ l : List Int, dataAll O (l.map .int) = some (l.map PySem.PyData.int)
  | [] => rfl
  | i :: r => by
    show (match (Val.int i).data O with
      | some a => match dataAll O (r.map .int) with
        | some b => some (a :: b)
        | none => none
      | none => none) = _
    rw [dataAll_ints O r]; rfl
end Mn
namespace Mn
/-! ### loops over what stands for other things -/
theorem comp_of {γ : Type} {X : Ctx} {elt : Ex} {t : Tg} {cs : Exs} {ρ0 : Env} {get : Nat → Store → Option (Option Val)} {R : List γ} {O : Store} (φ ψ : γ → Val) (p : γ → Bool)
    (hl : R.length < 16777216) (hget : ∀ i, i ≤ R.length → get i O = some (R.map φ)[i]?) (hturn : ∀ r, r ∈ R → ∀ acc : List Val, acc.length < 16777216 → cpTurn X elt t cs ρ0 (φ r) acc O = .ok (match p r with | true => ψ r :: acc | false => acc, true) O) :
    loopI get (cpTurn X elt t cs ρ0) TURNS 0 [] O = .ok ((R.filter p).map ψ).reverse O := by
  obtain ⟨a', O', e, e1, e2⟩ := loop_inv (get := get) (R.map φ) (fun i a' O' => O' = O ∧ a' = (((R.take i).filter p).map ψ).reverse) (fun i a O hi h => by rw [h.1]; exact hget i (by rw [List.length_map] at hi; exact hi)) (fun i a' O' v hv ⟨h1, h2⟩ => by
    subst h1
    rw [List.getElem?_map] at hv
    cases hr : R[i]? with
    | none => rw [hr] at hv; cases hv
    | some r =>
      rw [hr] at hv
      cases hv
      have hm := List.mem_of_getElem? hr
      have hlen : a'.length < 16777216 := by
        rw [h2, List.length_reverse, List.length_map]
        have h3 := List.length_filter_le p (R.take i)
        have h4 : (R.take i).length ≤ R.length := by rw [List.length_take]; omega
        omega
      refine ⟨_, _, hturn r hm a' hlen, rfl, ?_⟩
      rw [List.take_add_one, hr, h2]
      simp only [Option.toList_some, List.filter_append, List.map_append, List.reverse_append]
      cases hp : p r with
      | true => simp [hp]
      | false => simp [hp]) TURNS 0 [] O (turns_big (by rw [List.length_map]; omega)) (Nat.zero_le _) ⟨rfl, by simp⟩
  rw [e, e1, e2, List.length_map, List.take_length]
theorem comp_all {γ : Type} {X : Ctx} {elt : Ex} {t : Tg} {cs : Exs} {ρ0 : Env} {get : Nat → Store → Option (Option Val)} {R : List γ} {O : Store} (φ ψ : γ → Val)
    (hl : R.length < 16777216) (hget : ∀ i, i ≤ R.length → get i O = some (R.map φ)[i]?) (hturn : ∀ r, r ∈ R → ∀ acc : List Val, acc.length < 16777216 → cpTurn X elt t cs ρ0 (φ r) acc O = .ok (ψ r :: acc, true) O) :
    loopI get (cpTurn X elt t cs ρ0) TURNS 0 [] O = .ok (R.map ψ).reverse O := by
  have h := comp_of φ ψ (fun _ => true) hl hget hturn
  rw [show R.filter (fun _ => true) = R by simp] at h
  exact h
/-- a for: the state s after each item -/
theorem for_of {γ σ : Type} {turn : Val → Fl → Store → Res (Fl × Bool)} {get : Nat → Store → Option (Option Val)} {R : List γ} (φ : γ → Val) (g : σ → γ → σ) (I : Nat → σ → Fl → Store → Prop) {s0 : σ} {a0 : Fl} {O0 : Store}
    (hl : R.length ≤ 16777216) (hget : ∀ i s a O, i ≤ R.length → I i s a O → get i O = some (R.map φ)[i]?)
    (hturn : ∀ i s a O r, R[i]? = some r → I i s a O → ∃ a' O', turn (φ r) a O = .ok (a', true) O' ∧ I (i + 1) (g s r) a' O') (h0 : I 0 s0 a0 O0) :
    ∃ a' O', loopI get turn TURNS 0 a0 O0 = .ok a' O' ∧ I R.length (R.foldl g s0) a' O' := by
  obtain ⟨a', O', e, h⟩ := loop_inv (get := get) (turn := turn) (R.map φ) (fun i a O => I i ((R.take i).foldl g s0) a O) (fun i a O hi h => hget i _ a O (by rw [List.length_map] at hi; exact hi) h) (fun i a O v hv h => by
    rw [List.getElem?_map] at hv
    cases hr : R[i]? with
    | none => rw [hr] at hv; cases hv
    | some r =>
      rw [hr] at hv
      cases hv
      obtain ⟨a', O', e1, e2⟩ := hturn i _ a O r hr h
      refine ⟨a', O', e1, ?_⟩
      rw [List.take_add_one, hr]
      simp only [Option.toList_some, List.foldl_append, List.foldl_cons, List.foldl_nil]
      exact e2) TURNS 0 a0 O0 (turns_big (by rw [List.length_map]; exact hl)) (Nat.zero_le _) (by simpa using h0)
  rw [List.length_map] at h
  refine ⟨a', O', e, ?_⟩
  rw [List.take_length] at h
  exact h
end Mn
namespace Mn
/-! ### while -/
theorem loopW_succ {α : Type} (turn : α → Store → Res (α × Bool)) (n : Nat) (a : α) (O : Store) : loopW turn (n + 1) a O = (turn a O).bd fun p O1 => match p.2 with
    | true => loopW turn n p.1 O1
    | false => .ok p.1 O1 := Eq.trans rfl rfl
theorem loopW_mono {α : Type} {turn : α → Store → Res (α × Bool)} : ∀ {n m : Nat} {a r : α} {O O' : Store}, n ≤ m → loopW turn n a O = .ok r O' → loopW turn m a O = .ok r O'
  | 0, _, _, _, _, _, _, h => by cases h
  | n + 1, 0, _, _, _, _, hm, _ => by omega
  | n + 1, m + 1, a, r, O, O', hm, h => by
    rw [loopW_succ] at h ⊢
    cases ht : turn a O with
    | ok p O1 =>
      rw [ht, bind_ok] at h
      rw [bind_ok]
      obtain ⟨q, b⟩ := p
      cases b with
      | true => exact loopW_mono (by omega) h
      | false => exact h
    | exc c p O1 => rw [ht] at h; cases h
    | bad => rw [ht] at h; cases h
theorem turns_ge {n : Nat} (h : n ≤ 18446744073709551616) : n ≤ TURNS := by unfold TURNS; exact h
end Mn
namespace Mn
/-! ### fields, instances -/
def fldR (P : Pg) (x : Val) (a : Nat) (o : Option (Val × Store)) (ρ : Env) : Res Env := match o with
  | some (v', O2) => (match x with
      | .own j => match O2[j]? with
        | some (.ins c fs) => match P.cls[c]? with
          | some k => match k.ats.lookup a with
            | some (.slot i) => .ok ρ (O2.set j (.ins c (fs.set i (some v'))))
            | _ => .bad
          | none => .bad
        | _ => .bad
      | _ => .bad)
  | none => .bad
theorem asg_fld {X : Ctx} {ρ : Env} {O : Store} (o : Ex) (a : Nat) (v : Val) : asg X (.fld o a) v ρ O = (ev X o ρ O).bd fun x O1 => fldR X.pg x a (close v O1) ρ := Eq.trans rfl rfl
theorem fldR_own {P : Pg} {j a c i : Nat} {fs : List (Option Val)} {k : Cls} {v : Val} {O : Store} {ρ : Env} (h : O[j]? = some (.ins c fs)) (hc : P.cls[c]? = some k) (ha : k.ats.lookup a = some (.slot i)) : fldR P (.own j) a (some (v, O)) ρ = .ok ρ (O.set j (.ins c (fs.set i (some v)))) := by
  unfold fldR
  dsimp only
  rw [h]
  dsimp only
  rw [hc]
  dsimp only
  rw [ha]
theorem leave_len {O1 : Store} {n : Nat} {v : Val} (h : isOwn v = false) (hv : v.lt n = true) (hl : O1.length = n) (hO : StOk O1) : leave n false v O1 = .ok v O1 := by
  subst hl
  exact leave_v hO h hv
theorem made_ok {O : Store} {c : Nat} {l : List Val} (hO : StOk O) (hl : ltAll O.length l = true) : made O.length (O ++ [.ins c (l.map some)]) = some (.obj c l, O) := by
  have a : allSome (l.map some) = some l := by
    induction l with
    | nil => rfl
    | cons x r ih =>
      have hr : ltAll O.length r = true := by
        have : (x.lt O.length && ltAll O.length r) = true := hl
        rw [Bool.and_eq_true] at this
        exact this.2
      show (match allSome (r.map some) with | some l => some (x :: l) | none => none) = _
      rw [ih hr]
  unfold made
  rw [get_last]
  dsimp only
  rw [a]
  dsimp only
  have t : (O ++ [Cell.ins c (l.map some)]).take O.length = O := by rw [List.take_append_of_le_length (Nat.le_refl _), List.take_length]
  have e : (ltAll O.length l && cellsLt O.length ((O ++ [Cell.ins c (l.map some)]).take O.length)) = true := by
    rw [t, hl]; exact hO
  rw [e, t]
theorem StOk.ins {O : Store} {c n : Nat} (h : StOk O) : StOk (O ++ [.ins c (List.replicate n none)]) := h.push (by
  have : ∀ m n, ltOpt m (List.replicate n none) = true := fun m n => by
    induction n with
    | zero => rfl
    | succ n ih => exact ih
  exact this _ _)
/-- a for whose turns go on or raise -/
theorem loop_tests {turn : Val → Fl → Store → Res (Fl × Bool)} {get : Nat → Store → Option (Option Val)} {l : List Val} {O : Store} {c : Nat} (p : Val → Bool) (I : Fl → Prop) (hl : l.length ≤ 16777216) (hget : ∀ i, i ≤ l.length → get i O = some l[i]?)
    (hok : ∀ v a, v ∈ l → I a → p v = true → ∃ a', turn v a O = .ok (a', true) O ∧ I a') (hex : ∀ v a, v ∈ l → I a → p v = false → turn v a O = .exc c [] O) {a : Fl} (ha : I a) :
    (l.all p = true → ∃ a', loopI get turn TURNS 0 a O = .ok a' O ∧ I a') ∧ (l.all p = false → loopI get turn TURNS 0 a O = .exc c [] O) := by
  have key : ∀ n i a, l.length - i < n → i ≤ l.length → I a → ((l.drop i).all p = true → ∃ a', loopI get turn n i a O = .ok a' O ∧ I a') ∧ ((l.drop i).all p = false → loopI get turn n i a O = .exc c [] O) := fun n => by
    induction n with
    | zero => intro i a h; omega
    | succ n ih =>
      intro i a h hi hI
      have un : loopI get turn (n + 1) i a O = (match get i O with
        | none => .bad
        | some none => .ok a O
        | some (some v) => (turn v a O).bd fun p O1 => match p.2 with
          | true => loopI get turn n (i + 1) p.1 O1
          | false => .ok p.1 O1) := rfl
      rw [un, hget i hi]
      by_cases h2 : i < l.length
      · rw [List.getElem?_eq_getElem h2, List.drop_eq_getElem_cons h2, List.all_cons]
        dsimp only
        cases hp : p l[i] with
        | true =>
          obtain ⟨a', e1, e2⟩ := hok l[i] a (List.getElem_mem h2) hI hp
          rw [e1, bind_ok]
          exact ih (i + 1) a' (by omega) h2 e2
        | false =>
          rw [hex l[i] a (List.getElem_mem h2) hI hp]
          exact ⟨fun z => (by cases z), fun _ => rfl⟩
      · rw [List.getElem?_eq_none (by omega), List.drop_eq_nil_of_le (by omega)]
        exact ⟨fun _ => ⟨a, rfl, hI⟩, fun z => (by cases z)⟩
  have := key TURNS 0 a (turns_big hl) (Nat.zero_le _) ha
  rw [List.drop_zero] at this
  exact this
end Mn
end

section
set_option linter.all false
namespace K73
open PySem Mn
def i_is_whole : Nat := 0
def i_is_short : Nat := 1
def i_is_from : Nat := 2
def i_are_wholes : Nat := 3
def i_are_short : Nat := 4
def i_require_short : Nat := 5
def i_require_from : Nat := 6
def i_shared_of : Nat := 7
def i_first_of : Nat := 8
def i_primitive_of : Nat := 9
def i_raised_to : Nat := 10
def i_factorial_of : Nat := 11
def i_lots_of : Nat := 12
def i_is_point_any : Nat := 13
def i_is_point : Nat := 14
def i_lowest_of : Nat := 15
def i_is_pair_of_ratio : Nat := 16
def i_is_ratio_any : Nat := 17
def i_is_ratio_in : Nat := 18
def i_less_head : Nat := 19
def i_echelon_rows : Nat := 20
def i_lead_of : Nat := 21
def i_rank_of : Nat := 22
def i_kernel_rows : Nat := 23
def i_joined_entries : Nat := 24
def i_derived_in : Nat := 25
def i_is_zero_in : Nat := 26
def i_are_entries : Nat := 27
def i_form_of : Nat := 28
def i_require_form : Nat := 29
def i_level_entries : Nat := 30
def i_level_rows : Nat := 31
def i_killed_in : Nat := 32
def i_does_kill_in : Nat := 33
def i_ranks_in : Nat := 34
def i_killers_in : Nat := 35
def i_does_kill : Nat := 36
def i_killer_ranks : Nat := 37
def i_killers : Nat := 38
def i_moved_rows : Nat := 39
def i_has_root_twice : Nat := 40
def i_split_value : Nat := 41
def i_split_slope : Nat := 42
def i_split_inverse : Nat := 43
def i_left_by : Nat := 44
def i_is_simple_by : Nat := 45
def i_next_prime_of : Nat := 46
def i_lifted_root : Nat := 47
def i_point_by : Nat := 48
def i_with_line : Nat := 49
def i_simple_points : Nat := 50
def i_split_points : Nat := 51
def i_power_entries : Nat := 52
def i_numbers_in : Nat := 53
def i_summed_in : Nat := 54
def i_terms_at : Nat := 55
def i_many_points : Nat := 56
def i_first_killer : Nat := 57
def i_least_powers : Nat := 58
def i_require_form_and_many : Nat := 59
def i_powers_paper : Nat := 60
def i_is_term : Nat := 61
def i_are_terms_of : Nat := 62
def i_is_killer_paper : Nat := 63
def i_is_open_paper : Nat := 64
def i_is_powers_paper : Nat := 65
def i_are_different_points : Nat := 66
def i_numbers_at : Nat := 67
def i_are_sum_terms : Nat := 68
def i_powers_sum : Nat := 69
def i_monomial_powers : Nat := 70
def i__law_dice : Nat := 71
def i__law_roll : Nat := 72
def i__law_pick : Nat := 73
def i__law_near : Nat := 74
def i__law_small_form : Nat := 75
def i__law_fault : Nat := 76
def i__law_forms_right : Nat := 77
def i__law_sums_right : Nat := 78
def i_law : Nat := 79
def i_Told___init__ : Nat := 80
def i_Form___init__ : Nat := 81
def i_Form_entries : Nat := 82
def i_Form_degree : Nat := 83
def i_Form_is_zero : Nat := 84
def i_Form___mul__ : Nat := 85
def f_is_whole : Fn := ⟨1, 1, (.cons (.ret (.and (.isi .int (.var 0)) (.nt (.isi .bool (.var 0)))))
    .nil), true, false, false⟩
def f_is_short : Fn := ⟨1, 1, (.cons (.ret (.and (.call i_is_whole (.cons (.var 0) .nil)) (.chn .lt .lt (.neg (.glo 0)) (.var 0) (.glo 0))))
    .nil), true, false, false⟩
def f_is_from : Fn := ⟨3, 3, (.cons (.ret (.and (.call i_is_whole (.cons (.var 0) .nil)) (.chn .le .le (.var 1) (.var 0) (.var 2))))
    .nil), true, false, false⟩
def f_are_wholes : Fn := ⟨1, 3, (.cons (.ret (.and (.isi .tuple (.var 0)) (.blt .all false (.cons (.cmp1 false (.call i_is_whole (.cons (.var 2) .nil)) (.nm true 2) .seq (.cons (.var 0) .nil) .nil [1, 2]) .nil))))
    .nil), true, false, false⟩
def f_are_short : Fn := ⟨1, 3, (.cons (.ret (.and (.isi .tuple (.var 0)) (.blt .all false (.cons (.cmp1 false (.call i_is_short (.cons (.var 2) .nil)) (.nm true 2) .seq (.cons (.var 0) .nil) .nil [1, 2]) .nil))))
    .nil), true, false, false⟩
def f_require_short : Fn := ⟨1, 1, (.cons (.ifs (.nt (.call i_is_short (.cons (.var 0) .nil))) (.cons (.rse 4 (.cons (.var 0) .nil))
    .nil) .nil)
    .nil), true, false, false⟩
def f_require_from : Fn := ⟨3, 3, (.cons (.ifs (.nt (.call i_is_from (.cons (.var 0) (.cons (.var 1) (.cons (.var 2) .nil))))) (.cons (.rse 4 (.cons (.var 0) .nil))
    .nil) .nil)
    .nil), true, false, false⟩
def f_shared_of : Fn := ⟨1, 3, (.cons (.asg (.nm false 1) (.int 0))
    (.cons (.fr (.nm false 2) .seq (.cons (.var 0) .nil) (.cons (.asg (.nm false 1) (.blt .gcd false (.cons (.var 1) (.cons (.var 2) .nil))))
    .nil))
    (.cons (.ret (.var 1))
    .nil))), true, false, false⟩
def f_first_of : Fn := ⟨1, 3, (.cons (.ret (.nx0 0 0 (.var 0)))
    .nil), true, false, false⟩
def f_primitive_of : Fn := ⟨1, 4, (.cons (.asg (.nm false 1) (.call i_shared_of (.cons (.var 0) .nil)))
    (.cons (.ifs (.cmp .eq (.var 1) (.int 0)) (.cons (.ret (.blt .list false (.cons (.var 0) .nil)))
    .nil) .nil)
    (.cons (.asg (.nm false 1) (.ite (.cmp .gt (.call i_first_of (.cons (.var 0) .nil)) (.int 0)) (.var 1) (.neg (.var 1))))
    (.cons (.ret (.cmp1 false (.bin false .fdiv (.var 3) (.var 1)) (.nm true 3) .seq (.cons (.var 0) .nil) .nil [2, 3]))
    .nil)))), true, false, false⟩
def f_raised_to : Fn := ⟨2, 4, (.cons (.asg (.nm false 2) (.int 1))
    (.cons (.fr (.nm false 3) .rng (.cons (.var 1) .nil) (.cons (.aug 2 .mul (.var 0))
    .nil))
    (.cons (.ret (.var 2))
    .nil))), true, false, false⟩
def f_factorial_of : Fn := ⟨1, 3, (.cons (.asg (.nm false 1) (.int 1))
    (.cons (.fr (.nm false 2) .rng (.cons (.int 2) (.cons (.bin false .add (.var 0) (.int 1)) .nil)) (.cons (.aug 1 .mul (.var 2))
    .nil))
    (.cons (.ret (.var 1))
    .nil))), true, false, false⟩
def f_lots_of : Fn := ⟨2, 4, (.cons (.asg (.nm false 2) (.int 1))
    (.cons (.fr (.nm false 3) .rng (.cons (.var 1) .nil) (.cons (.asg (.nm false 2) (.bin false .fdiv (.bin false .mul (.var 2) (.bin false .sub (.var 0) (.var 3))) (.bin false .add (.var 3) (.int 1))))
    .nil))
    (.cons (.ret (.var 2))
    .nil))), true, false, false⟩
def f_is_point_any : Fn := ⟨1, 1, (.cons (.ifs (.or (.nt (.call i_are_wholes (.cons (.var 0) .nil))) (.or (.cmp .ne (.blt .len false (.cons (.var 0) .nil)) (.int 2)) (.cmp .eq (.var 0) (.tup (.cons (.int 0) (.cons (.int 0) .nil)))))) (.cons (.ret (.bl false))
    .nil) .nil)
    (.cons (.ret (.and (.cmp .eq (.blt .gcd false (.cons (.idx (.var 0) (.int 0)) (.cons (.idx (.var 0) (.int 1)) .nil))) (.int 1)) (.cmp .gt (.call i_first_of (.cons (.var 0) .nil)) (.int 0))))
    .nil)), true, false, false⟩
def f_is_point : Fn := ⟨1, 1, (.cons (.ret (.and (.call i_are_short (.cons (.var 0) .nil)) (.call i_is_point_any (.cons (.var 0) .nil))))
    .nil), true, false, false⟩
def f_lowest_of : Fn := ⟨2, 3, (.cons (.asg (.nm false 2) (.blt .gcd false (.cons (.var 0) (.cons (.var 1) .nil))))
    (.cons (.asg (.nm false 2) (.ite (.cmp .gt (.var 1) (.int 0)) (.var 2) (.neg (.var 2))))
    (.cons (.ret (.tup (.cons (.bin false .fdiv (.var 0) (.var 2)) (.cons (.bin false .fdiv (.var 1) (.var 2)) .nil))))
    .nil))), true, false, false⟩
def f_is_pair_of_ratio : Fn := ⟨1, 1, (.cons (.ret (.and (.cmp .gt (.idx (.var 0) (.int 1)) (.int 0)) (.cmp .eq (.blt .gcd false (.cons (.idx (.var 0) (.int 0)) (.cons (.idx (.var 0) (.int 1)) .nil))) (.int 1))))
    .nil), true, false, false⟩
def f_is_ratio_any : Fn := ⟨1, 1, (.cons (.ret (.and (.call i_are_wholes (.cons (.var 0) .nil)) (.and (.cmp .eq (.blt .len false (.cons (.var 0) .nil)) (.int 2)) (.call i_is_pair_of_ratio (.cons (.var 0) .nil)))))
    .nil), true, false, false⟩
def f_is_ratio_in : Fn := ⟨1, 1, (.cons (.ret (.and (.call i_are_short (.cons (.var 0) .nil)) (.and (.cmp .eq (.blt .len false (.cons (.var 0) .nil)) (.int 2)) (.call i_is_pair_of_ratio (.cons (.var 0) .nil)))))
    .nil), true, false, false⟩
def f_less_head : Fn := ⟨3, 11, (.cons (.asg (.tp (.cons (.nm false 3) (.cons (.nm false 4) .nil))) (.tup (.cons (.idx (.var 1) (.var 2)) (.cons (.idx (.var 0) (.var 2)) .nil))))
    (.cons (.ifs (.cmp .eq (.var 4) (.int 0)) (.cons (.ret (.var 0))
    .nil) .nil)
    (.cons (.asg (.nm false 5) (.blt .gcd false (.cons (.var 3) (.cons (.var 4) .nil))))
    (.cons (.asg (.tp (.cons (.nm false 3) (.cons (.nm false 4) .nil))) (.tup (.cons (.bin false .fdiv (.var 3) (.var 5)) (.cons (.bin false .fdiv (.var 4) (.var 5)) .nil))))
    (.cons (.asg (.nm false 6) (.cmp1 false (.bin false .sub (.bin false .mul (.var 9) (.var 3)) (.bin false .mul (.var 4) (.var 10))) (.tp (.cons (.nm true 9) (.cons (.nm true 10) .nil))) .zip (.cons (.var 0) (.cons (.var 1) .nil)) .nil [8, 9, 10]))
    (.cons (.asg (.nm false 7) (.call i_shared_of (.cons (.var 6) .nil)))
    (.cons (.ret (.ite (.cmp .gt (.var 7) (.int 1)) (.cmp1 false (.bin false .fdiv (.var 9) (.var 7)) (.nm true 9) .seq (.cons (.var 6) .nil) .nil [8, 9]) (.var 6)))
    .nil))))))), true, false, false⟩
def f_echelon_rows : Fn := ⟨2, 10, (.cons (.asg (.tp (.cons (.nm true 2) (.cons (.nm false 3) .nil))) (.tupk (.cons (.cmp1 true (.blt .list false (.cons (.var 8) .nil)) (.nm true 8) .seq (.cons (.var 0) .nil) .nil [7, 8]) (.cons (.lst false .nil) .nil))))
    (.cons (.fr (.nm false 4) .rng (.cons (.var 1) .nil) (.cons (.asg (.nm false 5) (.cmp1 false (.var 9) (.tp (.cons (.nm true 9) (.cons (.nm true 8) .nil))) .enm (.cons (.var 2) .nil) (.cons (.cmp .ne (.idx (.var 8) (.var 4)) (.int 0)) .nil) [7, 9, 8]))
    (.cons (.ifs (.cmp .ne (.var 5) (.lst false .nil)) (.cons (.asg (.nm false 6) (.mth .pop (.var 2) (.cons (.idx (.var 5) (.int 0)) .nil)))
    (.cons (.asg (.nm false 3) (.lst false (.star (.cmp1 false (.call i_less_head (.cons (.var 8) (.cons (.var 6) (.cons (.var 4) .nil)))) (.nm true 8) .seq (.cons (.var 3) .nil) .nil [7, 8]) (.cons (.var 6) .nil))))
    (.cons (.asg (.nm true 2) (.cmp1 true (.call i_less_head (.cons (.var 8) (.cons (.var 6) (.cons (.var 4) .nil)))) (.nm true 8) .seq (.cons (.var 2) .nil) .nil [7, 8]))
    .nil))) .nil)
    .nil)))
    (.cons (.ret (.cmp1 false (.call i_primitive_of (.cons (.var 8) .nil)) (.nm true 8) .seq (.cons (.var 3) .nil) .nil [7, 8]))
    .nil))), true, false, false⟩
def f_lead_of : Fn := ⟨1, 4, (.cons (.ret (.idx (.cmp1 false (.var 2) (.tp (.cons (.nm true 2) (.cons (.nm true 3) .nil))) .enm (.cons (.var 0) .nil) (.cons (.cmp .ne (.var 3) (.int 0)) .nil) [1, 2, 3]) (.int 0)))
    .nil), true, false, false⟩
def f_rank_of : Fn := ⟨2, 2, (.cons (.ret (.blt .len false (.cons (.call i_echelon_rows (.cons (.var 0) (.cons (.var 1) .nil))) .nil)))
    .nil), true, false, false⟩
def f_kernel_rows : Fn := ⟨2, 12, (.cons (.asg (.tp (.cons (.nm false 2) (.cons (.nm true 3) .nil))) (.tupk (.cons (.call i_echelon_rows (.cons (.var 0) (.cons (.var 1) .nil))) (.cons (.lst true .nil) .nil))))
    (.cons (.asg (.nm false 5) (.cmp1 false (.call i_lead_of (.cons (.var 4) .nil)) (.nm true 4) .seq (.cons (.var 2) .nil) .nil [10, 4]))
    (.cons (.asg (.nm false 6) (.int 1))
    (.cons (.fr (.tp (.cons (.nm false 4) (.cons (.nm false 7) .nil))) .zip (.cons (.var 2) (.cons (.var 5) .nil)) (.cons (.asg (.nm false 6) (.bin false .mul (.var 6) (.bin false .fdiv (.idx (.var 4) (.var 7)) (.blt .gcd false (.cons (.var 6) (.cons (.idx (.var 4) (.var 7)) .nil))))))
    .nil))
    (.cons (.fr (.nm false 8) .seq (.cons (.cmp1 false (.var 11) (.nm true 11) .rng (.cons (.var 1) .nil) (.cons (.cmp .nmem (.var 11) (.var 5)) .nil) [10, 11]) .nil) (.cons (.asg (.nm true 9) (.bin true .mul (.lst false (.cons (.int 0) .nil)) (.var 1)))
    (.cons (.asg (.sub (.var 9) (.var 8)) (.var 6))
    (.cons (.fr (.tp (.cons (.nm false 4) (.cons (.nm false 7) .nil))) .zip (.cons (.var 2) (.cons (.var 5) .nil)) (.cons (.asg (.sub (.var 9) (.var 7)) (.bin false .mul (.neg (.bin false .fdiv (.var 6) (.idx (.var 4) (.var 7)))) (.idx (.var 4) (.var 8))))
    .nil))
    (.cons (.ex (.mth .append (.var 3) (.cons (.var 9) .nil)))
    .nil)))))
    (.cons (.ret (.call i_echelon_rows (.cons (.var 3) (.cons (.var 1) .nil))))
    .nil)))))), true, false, false⟩
def f_joined_entries : Fn := ⟨2, 6, (.cons (.asg (.nm true 3) (.cmp1 true (.int 0) (.nm true 2) .rng (.cons (.bin false .sub (.bin false .add (.blt .len false (.cons (.var 0) .nil)) (.blt .len false (.cons (.var 1) .nil))) (.int 1)) .nil) .nil [5, 2]))
    (.cons (.fr (.nm false 4) .rng (.cons (.blt .len false (.cons (.var 0) .nil)) .nil) (.cons (.fr (.nm false 2) .rng (.cons (.blt .len false (.cons (.var 1) .nil)) .nil) (.cons (.asg (.sub (.var 3) (.bin false .add (.var 4) (.var 2))) (.bin false .add (.idx (.var 3) (.bin false .add (.var 4) (.var 2))) (.bin false .mul (.idx (.var 0) (.var 4)) (.idx (.var 1) (.var 2)))))
    .nil))
    .nil))
    (.cons (.ret (.blt .tuple false (.cons (.var 3) .nil)))
    .nil))), true, false, false⟩
def f_derived_in : Fn := ⟨3, 8, (.cons (.asg (.nm false 3) (.var 0))
    (.cons (.fr (.nm false 4) .rng (.cons (.var 1) .nil) (.cons (.asg (.nm false 3) (.blt .tuple false (.cons (.cmp1 false (.bin false .mul (.var 7) (.bin false .sub (.bin false .sub (.blt .len false (.cons (.var 3) .nil)) (.int 1)) (.var 6))) (.tp (.cons (.nm true 6) (.cons (.nm true 7) .nil))) .enm (.cons (.sl false (.var 3) .non (.intq (.neg (.int 1)))) .nil) .nil [5, 6, 7]) .nil)))
    .nil))
    (.cons (.fr (.nm false 4) .rng (.cons (.var 2) .nil) (.cons (.asg (.nm false 3) (.blt .tuple false (.cons (.cmp1 false (.bin false .mul (.var 7) (.bin false .add (.var 6) (.int 1))) (.tp (.cons (.nm true 6) (.cons (.nm true 7) .nil))) .enm (.cons (.sl false (.var 3) (.intq (.int 1)) .non) .nil) .nil [5, 6, 7]) .nil)))
    .nil))
    (.cons (.ret (.var 3))
    .nil)))), true, false, false⟩
def f_is_zero_in : Fn := ⟨1, 1, (.cons (.ret (.nt (.blt .any false (.cons (.var 0) .nil))))
    .nil), true, false, false⟩
def f_are_entries : Fn := ⟨1, 1, (.cons (.ret (.and (.call i_are_short (.cons (.var 0) .nil)) (.chn .le .le (.int 1) (.blt .len false (.cons (.var 0) .nil)) (.bin false .add (.glo 1) (.int 1)))))
    .nil), true, false, false⟩
def f_form_of : Fn := ⟨1, 1, (.cons (.ret (.mk 1 (.cons (.mk 0 (.cons (.var 0) .nil)) .nil)))
    .nil), true, false, false⟩
def f_require_form : Fn := ⟨1, 1, (.cons (.ifs (.nt (.isi (.cls 1) (.var 0))) (.cons (.rse 1 .nil)
    .nil) .nil)
    .nil), true, false, false⟩
def f_level_entries : Fn := ⟨1, 5, (.cons (.asg (.nm false 1) (.bin false .sub (.blt .len false (.cons (.var 0) .nil)) (.int 1)))
    (.cons (.ret (.cmp1 false (.bin false .mul (.bin false .mul (.call i_factorial_of (.cons (.var 3) .nil)) (.call i_factorial_of (.cons (.bin false .sub (.var 1) (.var 3)) .nil))) (.var 4)) (.tp (.cons (.nm true 3) (.cons (.nm true 4) .nil))) .enm (.cons (.var 0) .nil) .nil [2, 3, 4]))
    .nil)), true, false, false⟩
def f_level_rows : Fn := ⟨2, 5, (.cons (.asg (.nm false 2) (.call i_level_entries (.cons (.var 0) .nil)))
    (.cons (.ret (.cmp1 false (.blt .tuple false (.cons (.sl false (.var 2) (.intq (.var 4)) (.intq (.bin false .add (.bin false .add (.var 4) (.var 1)) (.int 1)))) .nil)) (.nm true 4) .rng (.cons (.bin false .sub (.blt .len false (.cons (.var 0) .nil)) (.var 1)) .nil) .nil [3, 4]))
    .nil)), true, false, false⟩
def f_killed_in : Fn := ⟨2, 10, (.cons (.asg (.nm false 2) (.bin false .sub (.blt .len false (.cons (.var 0) .nil)) (.int 1)))
    (.cons (.asg (.nm false 3) (.bin false .mul (.lst false (.cons (.int 0) .nil)) (.bin false .sub (.blt .len false (.cons (.var 1) .nil)) (.var 2))))
    (.cons (.fr (.tp (.cons (.nm false 4) (.cons (.nm false 5) .nil))) .enm (.cons (.var 0) .nil) (.cons (.ifs (.cmp .ne (.var 5) (.int 0)) (.cons (.asg (.nm false 6) (.call i_derived_in (.cons (.var 1) (.cons (.bin false .sub (.var 2) (.var 4)) (.cons (.var 4) .nil)))))
    (.cons (.asg (.nm false 3) (.cmp1 false (.bin false .add (.var 8) (.bin false .mul (.var 5) (.var 9))) (.tp (.cons (.nm true 8) (.cons (.nm true 9) .nil))) .zip (.cons (.var 3) (.cons (.var 6) .nil)) .nil [7, 8, 9]))
    .nil)) .nil)
    .nil))
    (.cons (.ret (.blt .tuple false (.cons (.var 3) .nil)))
    .nil)))), true, false, false⟩
def f_does_kill_in : Fn := ⟨2, 2, (.cons (.ret (.or (.cmp .gt (.blt .len false (.cons (.var 0) .nil)) (.blt .len false (.cons (.var 1) .nil))) (.call i_is_zero_in (.cons (.call i_killed_in (.cons (.var 0) (.cons (.var 1) .nil))) .nil))))
    .nil), true, false, false⟩
def f_ranks_in : Fn := ⟨1, 3, (.cons (.ret (.cmp1 false (.call i_rank_of (.cons (.call i_level_rows (.cons (.var 0) (.cons (.var 2) .nil))) (.cons (.bin false .add (.var 2) (.int 1)) .nil))) (.nm true 2) .rng (.cons (.blt .len false (.cons (.var 0) .nil)) .nil) .nil [1, 2]))
    .nil), true, false, false⟩
def f_killers_in : Fn := ⟨2, 4, (.cons (.ret (.cmp1 false (.blt .tuple false (.cons (.var 3) .nil)) (.nm true 3) .seq (.cons (.call i_kernel_rows (.cons (.call i_level_rows (.cons (.var 0) (.cons (.var 1) .nil))) (.cons (.bin false .add (.var 1) (.int 1)) .nil))) .nil) .nil [2, 3]))
    .nil), true, false, false⟩
def f_does_kill : Fn := ⟨2, 2, (.cons (.ex (.call i_require_form (.cons (.var 0) .nil)))
    (.cons (.ex (.call i_require_form (.cons (.var 1) .nil)))
    (.cons (.ret (.call i_does_kill_in (.cons (.att (.var 0) 2) (.cons (.att (.var 1) 2) .nil))))
    .nil))), true, false, false⟩
def f_killer_ranks : Fn := ⟨1, 1, (.cons (.ex (.call i_require_form (.cons (.var 0) .nil)))
    (.cons (.ret (.blt .tuple false (.cons (.call i_ranks_in (.cons (.att (.var 0) 2) .nil)) .nil)))
    .nil)), true, false, false⟩
def f_killers : Fn := ⟨2, 4, (.cons (.ex (.call i_require_form (.cons (.var 0) .nil)))
    (.cons (.ex (.call i_require_from (.cons (.var 1) (.cons (.int 0) (.cons (.blt .min false (.cons (.bin false .add (.att (.var 0) 3) (.int 1)) (.cons (.glo 1) .nil))) .nil)))))
    (.cons (.ret (.blt .tuple false (.cons (.cmp1 false (.call i_form_of (.cons (.var 3) .nil)) (.nm true 3) .seq (.cons (.call i_killers_in (.cons (.att (.var 0) 2) (.cons (.var 1) .nil))) .nil) .nil [2, 3]) .nil)))
    .nil))), true, false, false⟩
def f_moved_rows : Fn := ⟨2, 4, (.cons (.ret (.cmp1 false (.lst false (.star (.bin false .mul (.lst false (.cons (.int 0) .nil)) (.var 3)) (.star (.var 0) (.star (.bin false .mul (.lst false (.cons (.int 0) .nil)) (.bin false .sub (.bin false .sub (.var 1) (.int 1)) (.var 3))) .nil)))) (.nm true 3) .rng (.cons (.var 1) .nil) .nil [2, 3]))
    .nil), true, false, false⟩
def f_has_root_twice : Fn := ⟨1, 8, (.cons (.asg (.nm false 1) (.bin false .sub (.blt .len false (.cons (.var 0) .nil)) (.int 1)))
    (.cons (.ifs (.cmp .lt (.var 1) (.int 2)) (.cons (.ret (.bl false))
    .nil) .nil)
    (.cons (.asg (.nm false 2) (.cmp1 false (.bin false .mul (.var 7) (.bin false .sub (.var 1) (.var 6))) (.tp (.cons (.nm true 6) (.cons (.nm true 7) .nil))) .enm (.cons (.sl false (.var 0) .non (.intq (.neg (.int 1)))) .nil) .nil [5, 6, 7]))
    (.cons (.asg (.nm false 3) (.cmp1 false (.bin false .mul (.var 7) (.bin false .add (.var 6) (.int 1))) (.tp (.cons (.nm true 6) (.cons (.nm true 7) .nil))) .enm (.cons (.sl false (.var 0) (.intq (.int 1)) .non) .nil) .nil [5, 6, 7]))
    (.cons (.asg (.nm false 4) (.lst false (.star (.call i_moved_rows (.cons (.var 2) (.cons (.bin false .sub (.var 1) (.int 1)) .nil))) (.star (.call i_moved_rows (.cons (.var 3) (.cons (.bin false .sub (.var 1) (.int 1)) .nil))) .nil))))
    (.cons (.ret (.cmp .lt (.call i_rank_of (.cons (.var 4) (.cons (.bin false .sub (.bin false .mul (.int 2) (.var 1)) (.int 2)) .nil))) (.bin false .sub (.bin false .mul (.int 2) (.var 1)) (.int 2))))
    .nil)))))), true, false, false⟩
def f_split_value : Fn := ⟨3, 5, (.cons (.asg (.nm false 3) (.int 0))
    (.cons (.fr (.nm false 4) .seq (.cons (.rev false (.var 0)) .nil) (.cons (.asg (.nm false 3) (.bin false .mod (.bin false .add (.bin false .mul (.var 3) (.var 1)) (.var 4)) (.var 2)))
    .nil))
    (.cons (.ret (.var 3))
    .nil))), true, false, false⟩
def f_split_slope : Fn := ⟨1, 4, (.cons (.ret (.cmp1 false (.bin false .mul (.var 3) (.bin false .add (.var 2) (.int 1))) (.tp (.cons (.nm true 2) (.cons (.nm true 3) .nil))) .enm (.cons (.sl false (.var 0) (.intq (.int 1)) .non) .nil) .nil [1, 2, 3]))
    .nil), true, false, false⟩
def f_split_inverse : Fn := ⟨2, 5, (.cons (.asg (.tp (.cons (.nm false 2) (.cons (.nm false 3) .nil))) (.tupk (.cons (.tup (.cons (.var 1) (.cons (.int 0) .nil))) (.cons (.tup (.cons (.bin false .mod (.var 0) (.var 1)) (.cons (.int 1) .nil))) .nil))))
    (.cons (.whl (.cmp .gt (.idx (.var 3) (.int 0)) (.int 1)) (.cons (.asg (.nm false 4) (.bin false .fdiv (.idx (.var 2) (.int 0)) (.idx (.var 3) (.int 0))))
    (.cons (.asg (.tp (.cons (.nm false 2) (.cons (.nm false 3) .nil))) (.tupk (.cons (.var 3) (.cons (.tup (.cons (.bin false .sub (.idx (.var 2) (.int 0)) (.bin false .mul (.var 4) (.idx (.var 3) (.int 0)))) (.cons (.bin false .sub (.idx (.var 2) (.int 1)) (.bin false .mul (.var 4) (.idx (.var 3) (.int 1)))) .nil))) .nil))))
    .nil)))
    (.cons (.ret (.bin false .mod (.idx (.var 3) (.int 1)) (.var 1)))
    .nil))), true, false, false⟩
def f_left_by : Fn := ⟨3, 10, (.cons (.asg (.tp (.cons (.nm false 3) (.cons (.nm false 4) .nil))) (.tupk (.cons (.cmp1 false (.bin false .mod (.var 8) (.var 2)) (.nm true 8) .seq (.cons (.var 0) .nil) .nil [7, 8]) (.cons (.call i_split_inverse (.cons (.idx (.var 1) (.neg (.int 1))) (.cons (.var 2) .nil))) .nil))))
    (.cons (.whl (.cmp .ge (.blt .len false (.cons (.var 3) .nil)) (.blt .len false (.cons (.var 1) .nil))) (.cons (.asg (.tp (.cons (.nm false 5) (.cons (.nm false 6) .nil))) (.tup (.cons (.bin false .mul (.idx (.var 3) (.neg (.int 1))) (.var 4)) (.cons (.bin false .sub (.blt .len false (.cons (.var 3) .nil)) (.blt .len false (.cons (.var 1) .nil))) .nil))))
    (.cons (.asg (.nm false 3) (.lst false (.star (.sl false (.var 3) .non (.intq (.var 6))) (.star (.cmp1 false (.bin false .mod (.bin false .sub (.var 8) (.bin false .mul (.var 5) (.var 9))) (.var 2)) (.tp (.cons (.nm true 8) (.cons (.nm true 9) .nil))) .zip (.cons (.sl false (.var 3) (.intq (.var 6)) .non) (.cons (.var 1) .nil)) .nil [7, 8, 9]) .nil))))
    (.cons (.asg (.nm false 3) (.sl false (.var 3) .non (.intq (.neg (.int 1)))))
    .nil))))
    (.cons (.whl (.and (.cmp .ne (.var 3) (.lst false .nil)) (.cmp .eq (.idx (.var 3) (.neg (.int 1))) (.int 0))) (.cons (.asg (.nm false 3) (.sl false (.var 3) .non (.intq (.neg (.int 1)))))
    .nil))
    (.cons (.ret (.var 3))
    .nil)))), true, false, false⟩
def f_is_simple_by : Fn := ⟨2, 4, (.cons (.ifs (.or (.cmp .eq (.bin false .mod (.idx (.var 0) (.int 0)) (.var 1)) (.int 0)) (.cmp .eq (.bin false .mod (.idx (.var 0) (.neg (.int 1))) (.var 1)) (.int 0))) (.cons (.ret (.bl false))
    .nil) .nil)
    (.cons (.asg (.tp (.cons (.nm false 2) (.cons (.nm false 3) .nil))) (.tupk (.cons (.blt .list false (.cons (.var 0) .nil)) (.cons (.call i_left_by (.cons (.call i_split_slope (.cons (.var 0) .nil)) (.cons (.bin false .add (.bin false .mul (.lst false (.cons (.int 0) .nil)) (.bin false .sub (.blt .len false (.cons (.var 0) .nil)) (.int 1))) (.lst false (.cons (.int 1) .nil))) (.cons (.var 1) .nil)))) .nil))))
    (.cons (.whl (.cmp .ne (.var 3) (.lst false .nil)) (.cons (.asg (.tp (.cons (.nm false 2) (.cons (.nm false 3) .nil))) (.tupk (.cons (.var 3) (.cons (.call i_left_by (.cons (.var 2) (.cons (.var 3) (.cons (.var 1) .nil)))) .nil))))
    .nil))
    (.cons (.ret (.cmp .eq (.blt .len false (.cons (.var 2) .nil)) (.int 1)))
    .nil)))), true, false, false⟩
def f_next_prime_of : Fn := ⟨1, 4, (.cons (.asg (.nm false 1) (.bin false .add (.var 0) (.int 1)))
    (.cons (.whl (.nt (.blt .all false (.cons (.cmp1 false (.cmp .ne (.bin false .mod (.var 1) (.var 3)) (.int 0)) (.nm true 3) .rng (.cons (.int 2) (.cons (.var 1) .nil)) (.cons (.cmp .le (.bin false .mul (.var 3) (.var 3)) (.var 1)) .nil) [2, 3]) .nil))) (.cons (.aug 1 .add (.int 1))
    .nil))
    (.cons (.ret (.var 1))
    .nil))), true, false, false⟩
def f_lifted_root : Fn := ⟨4, 7, (.cons (.asg (.tp (.cons (.nm false 4) (.cons (.nm false 5) .nil))) (.tupk (.cons (.var 2) (.cons (.call i_split_slope (.cons (.var 0) .nil)) .nil))))
    (.cons (.whl (.cmp .le (.var 4) (.var 3)) (.cons (.asg (.nm false 4) (.bin false .mul (.var 4) (.var 4)))
    (.cons (.asg (.nm false 6) (.call i_split_inverse (.cons (.call i_split_value (.cons (.var 5) (.cons (.var 1) (.cons (.var 4) .nil)))) (.cons (.var 4) .nil))))
    (.cons (.asg (.nm false 1) (.bin false .mod (.bin false .sub (.var 1) (.bin false .mul (.call i_split_value (.cons (.var 0) (.cons (.var 1) (.cons (.var 4) .nil)))) (.var 6))) (.var 4)))
    .nil))))
    (.cons (.ret (.tup (.cons (.var 1) (.cons (.var 4) .nil))))
    .nil))), true, false, false⟩
def f_point_by : Fn := ⟨2, 5, (.cons (.asg (.tp (.cons (.nm false 2) (.cons (.nm false 3) .nil))) (.tupk (.cons (.tup (.cons (.var 1) (.cons (.int 0) .nil))) (.cons (.tup (.cons (.var 0) (.cons (.int 1) .nil))) .nil))))
    (.cons (.whl (.cmp .gt (.bin false .mul (.bin false .mul (.idx (.var 3) (.int 0)) (.idx (.var 3) (.int 0))) (.int 2)) (.var 1)) (.cons (.asg (.nm false 4) (.bin false .fdiv (.idx (.var 2) (.int 0)) (.idx (.var 3) (.int 0))))
    (.cons (.asg (.tp (.cons (.nm false 2) (.cons (.nm false 3) .nil))) (.tupk (.cons (.var 3) (.cons (.tup (.cons (.bin false .sub (.idx (.var 2) (.int 0)) (.bin false .mul (.var 4) (.idx (.var 3) (.int 0)))) (.cons (.bin false .sub (.idx (.var 2) (.int 1)) (.bin false .mul (.var 4) (.idx (.var 3) (.int 1)))) .nil))) .nil))))
    .nil)))
    (.cons (.ret (.blt .tuple false (.cons (.call i_primitive_of (.cons (.tup (.cons (.idx (.var 3) (.int 1)) (.cons (.idx (.var 3) (.int 0)) .nil))) .nil)) .nil)))
    .nil))), true, false, false⟩
def f_with_line : Fn := ⟨2, 7, (.cons (.asg (.tp (.cons (.nm false 2) (.cons (.nm false 3) .nil))) (.var 1))
    (.cons (.asg (.nm true 4) (.bin true .mul (.lst false (.cons (.int 0) .nil)) (.bin false .add (.blt .len false (.cons (.var 0) .nil)) (.int 1))))
    (.cons (.fr (.tp (.cons (.nm false 5) (.cons (.nm false 6) .nil))) .enm (.cons (.var 0) .nil) (.cons (.augS (.var 4) (.var 5) .add (.bin false .mul (.var 3) (.var 6)))
    (.cons (.augS (.var 4) (.bin false .add (.var 5) (.int 1)) .sub (.bin false .mul (.var 2) (.var 6)))
    .nil)))
    (.cons (.ret (.var 4))
    .nil)))), true, false, false⟩
def f_simple_points : Fn := ⟨1, 11, (.cons (.ifs (.cmp .eq (.blt .len false (.cons (.var 0) .nil)) (.int 1)) (.cons (.ret (.lst false .nil))
    .nil) .nil)
    (.cons (.asg (.nm false 1) (.glo 2))
    (.cons (.whl (.nt (.call i_is_simple_by (.cons (.var 0) (.cons (.var 1) .nil)))) (.cons (.asg (.nm false 1) (.call i_next_prime_of (.cons (.var 1) .nil)))
    .nil))
    (.cons (.asg (.nm false 3) (.cmp1 false (.var 2) (.nm true 2) .rng (.cons (.var 1) .nil) (.cons (.cmp .eq (.call i_split_value (.cons (.var 0) (.cons (.var 2) (.cons (.var 1) .nil)))) (.int 0)) .nil) [9, 2]))
    (.cons (.ifs (.cmp .lt (.blt .len false (.cons (.var 3) .nil)) (.bin false .sub (.blt .len false (.cons (.var 0) .nil)) (.int 1))) (.cons (.ret .non)
    .nil) .nil)
    (.cons (.asg (.nm false 4) (.blt .max false (.cons (.cmp1 false (.blt .abs false (.cons (.var 10) .nil)) (.nm true 10) .seq (.cons (.var 0) .nil) .nil [9, 10]) .nil)))
    (.cons (.asg (.tp (.cons (.nm true 5) (.cons (.nm false 6) .nil))) (.tupk (.cons (.lst true .nil) (.cons (.lst false (.cons (.int 1) .nil)) .nil))))
    (.cons (.fr (.nm false 2) .seq (.cons (.var 3) .nil) (.cons (.asg (.tp (.cons (.nm false 7) (.cons (.nm false 8) .nil))) (.call i_lifted_root (.cons (.var 0) (.cons (.var 2) (.cons (.var 1) (.cons (.bin false .mul (.bin false .mul (.int 8) (.var 4)) (.var 4)) .nil))))))
    (.cons (.ex (.mth .append (.var 5) (.cons (.call i_point_by (.cons (.var 7) (.cons (.var 8) .nil))) .nil)))
    (.cons (.asg (.nm false 6) (.call i_with_line (.cons (.var 6) (.cons (.idx (.var 5) (.neg (.int 1))) .nil))))
    .nil))))
    (.cons (.ret (.ite (.cmp .eq (.call i_primitive_of (.cons (.var 6) .nil)) (.call i_primitive_of (.cons (.var 0) .nil))) (.var 5) .non))
    .nil))))))))), true, false, false⟩
def f_split_points : Fn := ⟨1, 4, (.cons (.ifs (.call i_has_root_twice (.cons (.var 0) .nil)) (.cons (.ret .non)
    .nil) .nil)
    (.cons (.asg (.tp (.cons (.nm false 1) (.cons (.nm false 2) .nil))) (.tupk (.cons (.lst false .nil) (.cons (.blt .list false (.cons (.var 0) .nil)) .nil))))
    (.cons (.ifs (.and (.cmp .gt (.blt .len false (.cons (.var 2) .nil)) (.int 1)) (.cmp .eq (.idx (.var 2) (.int 0)) (.int 0))) (.cons (.asg (.tp (.cons (.nm false 1) (.cons (.nm false 2) .nil))) (.tupk (.cons (.lst false (.cons (.tup (.cons (.int 1) (.cons (.int 0) .nil))) .nil)) (.cons (.sl false (.var 2) (.intq (.int 1)) .non) .nil))))
    .nil) .nil)
    (.cons (.ifs (.and (.cmp .gt (.blt .len false (.cons (.var 2) .nil)) (.int 1)) (.cmp .eq (.idx (.var 2) (.neg (.int 1))) (.int 0))) (.cons (.asg (.tp (.cons (.nm false 1) (.cons (.nm false 2) .nil))) (.tupk (.cons (.lst false (.star (.var 1) (.cons (.tup (.cons (.int 0) (.cons (.int 1) .nil))) .nil))) (.cons (.sl false (.var 2) .non (.intq (.neg (.int 1)))) .nil))))
    .nil) .nil)
    (.cons (.asg (.nm false 3) (.call i_simple_points (.cons (.var 2) .nil)))
    (.cons (.ret (.ite (.cmp .isN (.var 3) .non) .non (.lst false (.star (.var 1) (.star (.var 3) .nil)))))
    .nil)))))), true, false, false⟩
def f_power_entries : Fn := ⟨2, 6, (.cons (.asg (.tp (.cons (.nm false 2) (.cons (.nm false 3) .nil))) (.var 0))
    (.cons (.ret (.cmp1 false (.bin false .mul (.bin false .mul (.call i_lots_of (.cons (.var 1) (.cons (.var 5) .nil))) (.call i_raised_to (.cons (.var 2) (.cons (.bin false .sub (.var 1) (.var 5)) .nil)))) (.call i_raised_to (.cons (.var 3) (.cons (.var 5) .nil)))) (.nm true 5) .rng (.cons (.bin false .add (.var 1) (.int 1)) .nil) .nil [4, 5]))
    .nil)), true, false, false⟩
def f_numbers_in : Fn := ⟨2, 12, (.cons (.asg (.nm false 2) (.cmp1 false (.call i_power_entries (.cons (.var 6) (.cons (.bin false .sub (.blt .len false (.cons (.var 0) .nil)) (.int 1)) .nil))) (.nm true 6) .seq (.cons (.var 1) .nil) .nil [5, 6]))
    (.cons (.asg (.nm false 3) (.cmp1 false (.lst false (.star (.cmp1 false (.idx (.var 9) (.var 7)) (.nm true 9) .seq (.cons (.var 2) .nil) .nil [5, 9]) (.cons (.var 8) .nil))) (.tp (.cons (.nm true 7) (.cons (.nm true 8) .nil))) .enm (.cons (.var 0) .nil) .nil [5, 7, 8]))
    (.cons (.asg (.nm false 4) (.cmp1 false (.var 10) (.nm true 10) .seq (.cons (.call i_kernel_rows (.cons (.var 3) (.cons (.bin false .add (.blt .len false (.cons (.var 1) .nil)) (.int 1)) .nil))) .nil) (.cons (.cmp .ne (.idx (.var 10) (.neg (.int 1))) (.int 0)) .nil) [5, 10]))
    (.cons (.ret (.ite (.cmp .eq (.var 4) (.lst false .nil)) .non (.cmp1 false (.call i_lowest_of (.cons (.neg (.var 11)) (.cons (.idx (.idx (.var 4) (.int 0)) (.neg (.int 1))) .nil))) (.nm true 11) .seq (.cons (.sl false (.idx (.var 4) (.int 0)) .non (.intq (.neg (.int 1)))) .nil) .nil [5, 11])))
    .nil)))), true, false, false⟩
def f_summed_in : Fn := ⟨2, 12, (.cons (.asg (.tp (.cons (.nm false 2) (.cons (.nm false 3) .nil))) (.tupk (.cons (.int 1) (.cons (.bin false .mul (.lst false (.cons (.int 0) .nil)) (.bin false .add (.var 0) (.int 1))) .nil))))
    (.cons (.fr (.tp (.cons (.nm false 4) (.cons (.nm false 5) .nil))) .seq (.cons (.var 1) .nil) (.cons (.asg (.nm false 2) (.blt .lcm false (.cons (.var 2) (.cons (.idx (.var 4) (.int 1)) .nil))))
    .nil))
    (.cons (.fr (.tp (.cons (.tp (.cons (.nm false 6) (.cons (.nm false 7) .nil))) (.cons (.nm false 5) .nil))) .seq (.cons (.var 1) .nil) (.cons (.asg (.nm false 8) (.bin false .mul (.var 6) (.bin false .fdiv (.var 2) (.var 7))))
    (.cons (.asg (.nm false 3) (.cmp1 false (.bin false .add (.var 10) (.bin false .mul (.var 8) (.var 11))) (.tp (.cons (.nm true 10) (.cons (.nm true 11) .nil))) .zip (.cons (.var 3) (.cons (.call i_power_entries (.cons (.var 5) (.cons (.var 0) .nil))) .nil)) .nil [9, 10, 11]))
    .nil)))
    (.cons (.ret (.tup (.cons (.var 3) (.cons (.var 2) .nil))))
    .nil)))), true, false, false⟩
def f_terms_at : Fn := ⟨2, 6, (.cons (.zr 2 (.blt .tuple false (.cons (.cmp1 false (.tup (.cons (.var 4) (.cons (.var 5) .nil))) (.tp (.cons (.nm true 4) (.cons (.nm true 5) .nil))) .zip (.cons (.call i_numbers_in (.cons (.att (.var 0) 2) (.cons (.var 1) .nil))) (.cons (.var 1) .nil)) (.cons (.cmp .ne (.idx (.var 4) (.int 0)) (.int 0)) .nil) [3, 4, 5]) .nil)))
    .nil), true, false, false⟩
def f_many_points : Fn := ⟨1, 3, (.cons (.asg (.tp (.cons (.nm true 1) (.cons (.nm false 2) .nil))) (.tupk (.cons (.lst true (.cons (.tup (.cons (.int 0) (.cons (.int 1) .nil))) (.cons (.tup (.cons (.int 1) (.cons (.int 0) .nil))) .nil))) (.cons (.int 1) .nil))))
    (.cons (.whl (.cmp .lt (.blt .len false (.cons (.var 1) .nil)) (.var 0)) (.cons (.ex (.mth .extend (.var 1) (.cons (.lst false (.cons (.tup (.cons (.int 1) (.cons (.var 2) .nil))) (.cons (.tup (.cons (.int 1) (.cons (.neg (.var 2)) .nil))) .nil))) .nil)))
    (.cons (.aug 2 .add (.int 1))
    .nil)))
    (.cons (.ret (.sl false (.var 1) .non (.intq (.var 0))))
    .nil))), true, false, false⟩
def f_first_killer : Fn := ⟨1, 2, (.cons (.asg (.nm false 1) (.blt .max false (.cons (.call i_killer_ranks (.cons (.var 0) .nil)) .nil)))
    (.cons (.ret (.tup (.cons (.var 1) (.cons (.idx (.call i_killers (.cons (.var 0) (.cons (.var 1) .nil))) (.int 0)) .nil))))
    .nil)), true, false, false⟩
def f_least_powers : Fn := ⟨1, 3, (.cons (.ex (.call i_require_form (.cons (.var 0) .nil)))
    (.cons (.ifs (.att (.var 0) 4) (.cons (.ret (.int 0))
    .nil) .nil)
    (.cons (.asg (.tp (.cons (.nm false 1) (.cons (.nm false 2) .nil))) (.call i_first_killer (.cons (.var 0) .nil)))
    (.cons (.ifs (.or (.cmp .eq (.bin false .mul (.int 2) (.var 1)) (.bin false .add (.att (.var 0) 3) (.int 2))) (.nt (.call i_has_root_twice (.cons (.att (.var 2) 2) .nil)))) (.cons (.ret (.var 1))
    .nil) .nil)
    (.cons (.ret (.bin false .sub (.bin false .add (.att (.var 0) 3) (.int 2)) (.var 1)))
    .nil))))), true, false, false⟩
def f_require_form_and_many : Fn := ⟨2, 2, (.cons (.ex (.call i_require_form (.cons (.var 0) .nil)))
    (.cons (.ex (.call i_require_from (.cons (.var 1) (.cons (.int 0) (.cons (.glo 3) .nil)))))
    .nil)), true, false, false⟩
def f_powers_paper : Fn := ⟨2, 5, (.cons (.ex (.call i_require_form_and_many (.cons (.var 0) (.cons (.var 1) .nil))))
    (.cons (.ifs (.att (.var 0) 4) (.cons (.ret (.tup (.cons (.glo 7) (.cons (.tup .nil) .nil))))
    .nil) .nil)
    (.cons (.asg (.tp (.cons (.nm false 2) (.cons (.nm false 3) .nil))) (.call i_first_killer (.cons (.var 0) .nil)))
    (.cons (.ifs (.cmp .lt (.var 1) (.var 2)) (.cons (.ret (.tup (.cons (.glo 8) (.cons (.var 1) .nil))))
    .nil) .nil)
    (.cons (.asg (.nm false 4) (.call i_split_points (.cons (.att (.var 3) 2) .nil)))
    (.cons (.ifs (.cmp .notN (.var 4) .non) (.cons (.ret (.tup (.cons (.glo 7) (.cons (.call i_terms_at (.cons (.var 0) (.cons (.var 4) .nil))) .nil))))
    .nil) .nil)
    (.cons (.ifs (.cmp .lt (.var 1) (.bin false .sub (.bin false .add (.att (.var 0) 3) (.int 2)) (.var 2))) (.cons (.ret (.tup (.cons (.glo 9) (.cons (.var 3) .nil))))
    .nil) .nil)
    (.cons (.ret (.ite (.cmp .gt (.var 1) (.att (.var 0) 3)) (.tup (.cons (.glo 7) (.cons (.call i_terms_at (.cons (.var 0) (.cons (.call i_many_points (.cons (.bin false .add (.att (.var 0) 3) (.int 1)) .nil)) .nil))) .nil))) .bad))
    .nil)))))))), true, false, false⟩
def f_is_term : Fn := ⟨1, 1, (.cons (.ifs (.or (.nt (.isi .tuple (.var 0))) (.cmp .ne (.blt .len false (.cons (.var 0) .nil)) (.glo 6))) (.cons (.ret (.bl false))
    .nil) .nil)
    (.cons (.ret (.and (.call i_is_ratio_any (.cons (.idx (.var 0) (.int 0)) .nil)) (.and (.cmp .ne (.idx (.idx (.var 0) (.int 0)) (.int 0)) (.int 0)) (.call i_is_point_any (.cons (.idx (.var 0) (.int 1)) .nil)))))
    .nil)), true, false, false⟩
def f_are_terms_of : Fn := ⟨3, 10, (.cons (.ifs (.or (.nt (.isi .tuple (.var 2))) (.or (.cmp .gt (.blt .len false (.cons (.var 2) .nil)) (.var 1)) (.nt (.blt .all false (.cons (.cmp1 false (.call i_is_term (.cons (.var 6) .nil)) (.nm true 6) .seq (.cons (.var 2) .nil) .nil [5, 6]) .nil))))) (.cons (.ret (.bl false))
    .nil) .nil)
    (.cons (.ifs (.cmp .lt (.lset (.cmp1 false (.var 8) (.tp (.cons (.nm true 7) (.cons (.nm true 8) .nil))) .seq (.cons (.var 2) .nil) .nil [5, 7, 8])) (.blt .len false (.cons (.var 2) .nil))) (.cons (.ret (.bl false))
    .nil) .nil)
    (.cons (.asg (.tp (.cons (.nm false 3) (.cons (.nm false 4) .nil))) (.call i_summed_in (.cons (.att (.var 0) 3) (.cons (.var 2) .nil))))
    (.cons (.ret (.cmp .eq (.var 3) (.cmp1 false (.bin false .mul (.var 4) (.var 9)) (.nm true 9) .seq (.cons (.att (.var 0) 2) .nil) .nil [5, 9])))
    .nil)))), true, false, false⟩
def f_is_killer_paper : Fn := ⟨3, 4, (.cons (.ifs (.or (.att (.var 0) 4) (.or (.nt (.isi (.cls 1) (.var 2))) (.att (.var 2) 4))) (.cons (.ret (.bl false))
    .nil) .nil)
    (.cons (.asg (.nm false 3) (.blt .max false (.cons (.call i_killer_ranks (.cons (.var 0) .nil)) .nil)))
    (.cons (.ifs (.or (.cmp .ne (.att (.var 2) 3) (.var 3)) (.nt (.chn .le .lt (.var 3) (.var 1) (.bin false .sub (.bin false .add (.att (.var 0) 3) (.int 2)) (.var 3))))) (.cons (.ret (.bl false))
    .nil) .nil)
    (.cons (.ret (.and (.call i_does_kill (.cons (.var 2) (.cons (.var 0) .nil))) (.cmp .isN (.call i_split_points (.cons (.att (.var 2) 2) .nil)) .non)))
    .nil)))), true, false, false⟩
def f_is_open_paper : Fn := ⟨2, 4, (.cons (.ifs (.or (.att (.var 0) 4) (.cmp .gt (.var 1) (.att (.var 0) 3))) (.cons (.ret (.bl false))
    .nil) .nil)
    (.cons (.asg (.tp (.cons (.nm false 2) (.cons (.nm false 3) .nil))) (.call i_first_killer (.cons (.var 0) .nil)))
    (.cons (.ret (.and (.cmp .ge (.var 1) (.bin false .sub (.bin false .add (.att (.var 0) 3) (.int 2)) (.var 2))) (.cmp .isN (.call i_split_points (.cons (.att (.var 3) 2) .nil)) .non)))
    .nil))), true, false, false⟩
def f_is_powers_paper : Fn := ⟨3, 3, (.cons (.ex (.call i_require_form_and_many (.cons (.var 0) (.cons (.var 1) .nil))))
    (.cons (.ifs (.or (.nt (.isi .tuple (.var 2))) (.or (.cmp .eq (.var 2) (.tup .nil)) (.nt (.isi .str (.idx (.var 2) (.int 0)))))) (.cons (.ret (.bl false))
    .nil) .nil)
    (.cons (.ifs (.cmp .eq (.idx (.var 2) (.int 0)) (.idx .bad (.int 0))) (.cons (.ret (.and (.cmp .eq (.blt .len false (.cons (.var 2) .nil)) (.int 1)) (.call i_is_open_paper (.cons (.var 0) (.cons (.var 1) .nil)))))
    .nil) .nil)
    (.cons (.ifs (.cmp .ne (.blt .len false (.cons (.var 2) .nil)) (.glo 6)) (.cons (.ret (.bl false))
    .nil) .nil)
    (.cons (.ifs (.cmp .eq (.idx (.var 2) (.int 0)) (.glo 7)) (.cons (.ret (.call i_are_terms_of (.cons (.var 0) (.cons (.var 1) (.cons (.idx (.var 2) (.int 1)) .nil)))))
    .nil) .nil)
    (.cons (.ifs (.cmp .eq (.idx (.var 2) (.int 0)) (.glo 8)) (.cons (.ret (.and (.call i_is_from (.cons (.idx (.var 2) (.int 1)) (.cons (.int 0) (.cons (.att (.var 0) 3) .nil)))) (.cmp .gt (.idx (.call i_killer_ranks (.cons (.var 0) .nil)) (.idx (.var 2) (.int 1))) (.var 1))))
    .nil) .nil)
    (.cons (.ret (.and (.cmp .eq (.idx (.var 2) (.int 0)) (.glo 9)) (.call i_is_killer_paper (.cons (.var 0) (.cons (.var 1) (.cons (.idx (.var 2) (.int 1)) .nil))))))
    .nil))))))), true, false, false⟩
def f_are_different_points : Fn := ⟨2, 4, (.cons (.ifs (.or (.nt (.isi .tuple (.var 0))) (.or (.cmp .gt (.blt .len false (.cons (.var 0) .nil)) (.var 1)) (.nt (.blt .all false (.cons (.cmp1 false (.call i_is_point (.cons (.var 3) .nil)) (.nm true 3) .seq (.cons (.var 0) .nil) .nil [2, 3]) .nil))))) (.cons (.ret (.bl false))
    .nil) .nil)
    (.cons (.ret (.cmp .eq (.lset (.var 0)) (.blt .len false (.cons (.var 0) .nil))))
    .nil)), true, false, false⟩
def f_numbers_at : Fn := ⟨2, 3, (.cons (.ex (.call i_require_form (.cons (.var 0) .nil)))
    (.cons (.ifs (.nt (.call i_are_different_points (.cons (.var 1) (.cons (.bin false .add (.att (.var 0) 3) (.int 1)) .nil)))) (.cons (.rse 2 .nil)
    .nil) .nil)
    (.cons (.asg (.nm false 2) (.call i_numbers_in (.cons (.att (.var 0) 2) (.cons (.var 1) .nil))))
    (.cons (.ret (.ite (.cmp .isN (.var 2) .non) .non (.blt .tuple false (.cons (.var 2) .nil))))
    .nil)))), true, false, false⟩
def f_are_sum_terms : Fn := ⟨1, 5, (.cons (.ifs (.or (.nt (.isi .tuple (.var 0))) (.cmp .gt (.blt .len false (.cons (.var 0) .nil)) (.glo 3))) (.cons (.ret (.bl false))
    .nil) .nil)
    (.cons (.ifs (.nt (.blt .all false (.cons (.cmp1 false (.and (.isi .tuple (.var 2)) (.cmp .eq (.blt .len false (.cons (.var 2) .nil)) (.glo 6))) (.nm true 2) .seq (.cons (.var 0) .nil) .nil [1, 2]) .nil))) (.cons (.ret (.bl false))
    .nil) .nil)
    (.cons (.ret (.blt .all false (.cons (.cmp1 false (.and (.call i_is_ratio_in (.cons (.var 3) .nil)) (.call i_is_point (.cons (.var 4) .nil))) (.tp (.cons (.nm true 3) (.cons (.nm true 4) .nil))) .seq (.cons (.var 0) .nil) .nil [1, 3, 4]) .nil)))
    .nil))), true, false, false⟩
def f_powers_sum : Fn := ⟨2, 7, (.cons (.ex (.call i_require_from (.cons (.var 0) (.cons (.int 0) (.cons (.glo 4) .nil)))))
    (.cons (.ifs (.nt (.call i_are_sum_terms (.cons (.var 1) .nil))) (.cons (.rse 3 .nil)
    .nil) .nil)
    (.cons (.asg (.tp (.cons (.nm false 2) (.cons (.nm false 3) .nil))) (.call i_summed_in (.cons (.var 0) (.cons (.var 1) .nil))))
    (.cons (.asg (.nm false 4) (.bin false .fdiv (.var 3) (.call i_shared_of (.cons (.lst false (.cons (.var 3) (.star (.var 2) .nil))) .nil))))
    (.cons (.ifs (.cmp .gt (.var 4) (.int 1)) (.cons (.rse 6 (.cons (.tup (.cons (.str "bottom") (.cons (.var 4) .nil))) .nil))
    .nil) .nil)
    (.cons (.ret (.call i_form_of (.cons (.blt .tuple false (.cons (.cmp1 false (.bin false .fdiv (.var 6) (.var 3)) (.nm true 6) .seq (.cons (.var 2) .nil) .nil [5, 6]) .nil)) .nil)))
    .nil)))))), true, false, false⟩
def f_monomial_powers : Fn := ⟨2, 3, (.cons (.fr (.nm false 2) .seq (.cons (.tup (.cons (.var 0) (.cons (.var 1) .nil))) .nil) (.cons (.ifs (.nt (.call i_is_from (.cons (.var 2) (.cons (.int 0) (.cons (.glo 5) .nil))))) (.cons (.rse 4 (.cons (.var 2) .nil))
    .nil) .nil)
    .nil))
    (.cons (.ret (.ite (.cmp .eq (.blt .min false (.cons (.var 0) (.cons (.var 1) .nil))) (.int 0)) (.tup (.cons (.int 1) (.cons (.int 1) .nil))) (.tup (.cons (.bin false .add (.blt .max false (.cons (.var 0) (.cons (.var 1) .nil))) (.int 1)) (.cons (.bin false .add (.var 0) (.var 1)) .nil)))))
    .nil)), true, false, false⟩
def f__law_dice : Fn := ⟨2, 4, (.cons (.asg (.nm false 2) (.ite (.cmp .lt (.var 1) (.blt .len false (.cons (.var 0) .nil))) (.blt .toInt false (.cons (.idx (.var 0) (.var 1)) .nil)) (.bin false .add (.bin false .mul (.int 89) (.var 1)) (.int 37))))
    (.cons (.asg (.nm false 3) (.bin false .mod (.blt .max false (.cons (.int 0) (.cons (.bin false .sub (.blt .abs false (.cons (.var 2) .nil)) (.bin false .pow (.int 10) (.int 16))) .nil))) (.bin false .mul (.bin false .pow (.int 10) (.int 60)) (.bin false .pow (.int 10) (.int 60)))))
    (.cons (.ret (.lst true (.cons (.var 3) (.cons (.bin false .add (.bin false .add (.bin false .add (.bin false .mul (.bin false .mod (.blt .abs false (.cons (.var 2) .nil)) (.int 1152921504606846697)) (.int 83)) (.bin false .mul (.int 883) (.var 1))) (.bin false .mul (.int 43) (.blt .toInt false (.cons (.cmp .lt (.var 2) (.int 0)) .nil)))) (.int 19)) (.cons (.int 0) .nil)))))
    .nil))), true, false, true⟩
def f__law_roll : Fn := ⟨2, 5, (.cons (.ifs (.cmp .gt (.idx (.var 0) (.int 0)) (.int 0)) (.cons (.asg (.nm false 2) (.bin false .mod (.blt .toInt false (.cons (.idx (.var 0) (.int 0)) .nil)) (.var 1)))
    (.cons (.asg (.sub (.var 0) (.int 0)) (.bin false .fdiv (.idx (.var 0) (.int 0)) (.var 1)))
    (.cons (.ret (.var 2))
    .nil))) .nil)
    (.cons (.asg (.sub (.var 0) (.int 2)) (.bin false .add (.idx (.var 0) (.int 2)) (.int 1)))
    (.cons (.asg (.nm false 3) (.bin false .mod (.blt .toInt false (.cons (.bin false .add (.idx (.var 0) (.int 1)) (.bin false .mul (.int 92821991) (.idx (.var 0) (.int 2)))) .nil)) (.int 2305843009213691579)))
    (.cons (.asg (.nm false 4) (.bin false .add (.bin false .mul (.bin false .mod (.blt .toInt false (.cons (.bin false .add (.bin false .mul (.var 3) (.var 3)) (.bin false .mul (.int 101) (.idx (.var 0) (.int 2)))) .nil)) (.int 2305843009213692227)) (.int 5915587)) (.var 3)))
    (.cons (.ret (.bin false .mod (.blt .toInt false (.cons (.bin false .fdiv (.var 4) (.int 65536)) .nil)) (.var 1)))
    .nil))))), true, false, false⟩
def f__law_pick : Fn := ⟨2, 2, (.cons (.ret (.idx (.var 1) (.call i__law_roll (.cons (.var 0) (.cons (.blt .len false (.cons (.var 1) .nil)) .nil)))))
    .nil), true, false, false⟩
def f__law_near : Fn := ⟨2, 2, (.cons (.ret (.bin false .sub (.call i__law_roll (.cons (.var 0) (.cons (.bin false .add (.bin false .mul (.int 2) (.var 1)) (.int 1)) .nil))) (.var 1)))
    .nil), true, false, false⟩
def f__law_small_form : Fn := ⟨3, 5, (.cons (.ret (.blt .tuple false (.cons (.cmp1 false (.call i__law_near (.cons (.var 0) (.cons (.var 2) .nil))) (.nm true 4) .rng (.cons (.bin false .add (.var 1) (.int 1)) .nil) .nil [3, 4]) .nil)))
    .nil), true, false, false⟩
def f__law_fault : Fn := ⟨1, 2, (.cons (.tr (.cons (.ex .callT)
    .nil) (.cons 1 (.pair (.c (.str "refused")) (.c (.str "form"))) (.cons 2 (.pair (.c (.str "refused")) (.c (.str "point"))) (.cons 3 (.pair (.c (.str "refused")) (.c (.str "operation"))) (.cons 4 (.pair (.c (.str "refused")) .rf) (.cons 6 (.pair (.c (.str "refused")) .f) .nil))))))
    (.cons (.ret (.tup (.cons (.str "let") (.cons .non .nil))))
    .nil)), true, false, false⟩
def f__law_forms_right : Fn := ⟨2, 9, (.cons (.asg (.nm false 5) (.call i__law_pick (.cons (.var 0) (.cons (.lst false (.cons .non (.cons (.int 3) (.cons (.tup (.cons (.int 1) (.cons (.int 2) .nil))) (.cons (.str "form 1 2") (.cons (.lst false (.cons (.var 1) .nil)) (.cons .edic .nil))))))) .nil))))
    (.cons (.asg (.nm false 4) (.call i__law_pick (.cons (.var 0) (.cons (.lst false (.cons .non (.cons (.neg (.int 1)) (.cons (.int 51) (.cons (.bl true) (.cons (.str "2") (.cons (.tup (.cons (.int 2) .nil)) (.cons (.bin false .pow (.int 10) (.int 60)) .nil)))))))) .nil))))
    (.cons (.asg (.nm false 2) (.lst false (.cons .non (.cons (.int 5) (.cons (.lst false (.cons (.tup (.cons (.int 1) (.cons (.int 0) .nil))) .nil)) (.cons (.tup (.cons (.tup (.cons (.int 0) (.cons (.int 0) .nil))) .nil)) (.cons (.tup (.cons (.tup (.cons (.int 2) (.cons (.int 4) .nil))) .nil)) (.cons (.tup (.cons (.tup (.cons (.neg (.int 1)) (.cons (.int 2) .nil))) .nil)) (.cons (.tup (.cons (.tup (.cons (.int 1) (.cons (.int 0) .nil))) (.cons (.tup (.cons (.int 1) (.cons (.int 0) .nil))) .nil))) (.cons (.tup (.cons (.tup (.cons (.int 1) (.cons (.int 0) (.cons (.int 0) .nil)))) .nil)) (.cons (.tup (.cons (.tup (.cons (.bl true) (.cons (.int 0) .nil))) .nil)) (.cons (.tup (.cons .non .nil)) (.cons (.str "0") (.cons (.tup (.cons (.int 1) (.cons (.int 0) .nil))) .nil))))))))))))))
    (.cons (.asg (.nm false 6) (.call i__law_pick (.cons (.var 0) (.cons (.bin false .add (.var 2) (.lst false (.cons (.tup (.cons (.tup (.cons (.int 1) (.cons (.bin false .pow (.int 10) (.int 60)) .nil))) .nil)) (.cons (.blt .tuple false (.cons (.cmp1 false (.tup (.cons (.int 1) (.cons (.var 8) .nil))) (.nm true 8) .rng (.cons (.bin false .add (.att (.var 1) 3) (.int 2)) .nil) .nil [7, 8]) .nil)) .nil)))) .nil))))
    (.cons (.asg (.nm true 3) (.lst true (.cons (.lam i__law_fault (.call i_least_powers (.cons (.var 5) .nil))) .nil)))
    (.cons (.ex (.mth .append (.var 3) (.cons (.lam i__law_fault (.call i_powers_paper (.cons (.var 5) (.cons (.var 4) .nil)))) .nil)))
    (.cons (.ex (.mth .append (.var 3) (.cons (.lam i__law_fault (.call i_is_powers_paper (.cons (.var 5) (.cons (.var 4) (.cons .non .nil))))) .nil)))
    (.cons (.ex (.mth .append (.var 3) (.cons (.lam i__law_fault (.call i_numbers_at (.cons (.var 5) (.cons (.var 6) .nil)))) .nil)))
    (.cons (.ifs (.cmp .ne (.var 3) (.bin false .mul (.lst false (.cons (.tup (.cons (.str "refused") (.cons (.str "form") .nil))) .nil)) (.int 4))) (.cons (.ret (.bl false))
    .nil) .nil)
    (.cons (.asg (.nm true 3) (.lst true (.cons (.lam i__law_fault (.call i_powers_paper (.cons (.var 1) (.cons (.var 4) .nil)))) .nil)))
    (.cons (.ex (.mth .append (.var 3) (.cons (.lam i__law_fault (.call i_is_powers_paper (.cons (.var 1) (.cons (.var 4) (.cons (.tup (.cons (.str "open") .nil)) .nil))))) .nil)))
    (.cons (.ex (.mth .append (.var 3) (.cons (.lam i__law_fault (.call i_numbers_at (.cons (.var 1) (.cons (.var 6) .nil)))) .nil)))
    (.cons (.ret (.cmp .eq (.var 3) (.bin false .add (.bin false .mul (.lst false (.cons (.tup (.cons (.str "refused") (.cons (.rep (.var 4)) .nil))) .nil)) (.int 2)) (.lst false (.cons (.tup (.cons (.str "refused") (.cons (.str "point") .nil))) .nil)))))
    .nil))))))))))))), true, false, false⟩
def f__law_sums_right : Fn := ⟨1, 8, (.cons (.asg (.nm false 3) (.call i__law_pick (.cons (.var 0) (.cons (.lst false (.cons .non (.cons (.neg (.int 1)) (.cons (.int 41) (.cons (.bl true) (.cons (.str "3") (.cons (.tup (.cons (.int 3) .nil)) (.cons (.bin false .pow (.int 10) (.int 60)) .nil)))))))) .nil))))
    (.cons (.asg (.nm false 4) (.tup (.cons (.tup (.cons (.int 1) (.cons (.int 2) .nil))) (.cons (.tup (.cons (.int 1) (.cons (.int 0) .nil))) .nil))))
    (.cons (.asg (.nm false 1) (.lst false (.cons .non (.cons (.int 7) (.cons (.lst false (.cons (.var 4) .nil)) (.cons (.tup (.cons (.idx (.var 4) (.int 0)) .nil)) (.cons (.tup (.cons (.tup (.cons (.tup (.cons (.int 2) (.cons (.int 4) .nil))) (.cons (.tup (.cons (.int 1) (.cons (.int 0) .nil))) .nil))) .nil)) (.cons (.tup (.cons (.tup (.cons (.tup (.cons (.int 1) (.cons (.int 2) .nil))) (.cons (.tup (.cons (.int 2) (.cons (.int 0) .nil))) .nil))) .nil)) (.cons (.tup (.cons (.tup (.cons (.int 1) (.cons (.tup (.cons (.int 1) (.cons (.int 0) .nil))) .nil))) .nil)) (.cons (.tup (.cons (.tup (.cons (.tup (.cons (.int 1) (.cons (.int 2) .nil))) (.cons (.tup (.cons (.int 0) (.cons (.int 0) .nil))) .nil))) .nil)) (.cons (.bin false .mul (.tup (.cons (.var 4) .nil)) (.int 51)) (.cons (.str "1") .nil))))))))))))
    (.cons (.asg (.nm false 7) (.call i__law_pick (.cons (.var 0) (.cons (.bin false .add (.var 1) (.lst false (.cons (.tup (.cons (.tup (.cons (.tup (.cons (.int 1) (.cons (.bl true) .nil))) (.cons (.tup (.cons (.int 1) (.cons (.int 0) .nil))) .nil))) .nil)) (.cons (.tup (.cons (.tup (.cons (.tup (.cons (.int 1) (.cons (.int 2) .nil))) (.cons (.tup (.cons (.int 1) (.cons (.bl false) .nil))) .nil))) .nil)) (.cons (.tup (.cons (.tup (.cons (.tup (.cons (.int 1) (.cons (.int 2) .nil))) (.cons (.tup (.cons (.int 1) (.cons (.int 0) .nil))) (.cons (.int 0) .nil)))) .nil)) (.cons .edic (.cons (.tup (.cons (.tup (.cons (.tup (.cons (.bin false .pow (.int 10) (.int 60)) (.cons (.int 1) .nil))) (.cons (.tup (.cons (.int 1) (.cons (.int 0) .nil))) .nil))) .nil)) .nil))))))) .nil))))
    (.cons (.asg (.tp (.cons (.nm false 5) (.cons (.nm false 6) .nil))) (.tup (.cons (.call i__law_pick (.cons (.var 0) (.cons (.lst false (.cons .non (.cons (.neg (.int 1)) (.cons (.int 21) (.cons (.bl true) (.cons (.str "2") (.cons (.lst false (.cons (.int 2) .nil)) .nil))))))) .nil))) (.cons (.call i__law_pick (.cons (.var 0) (.cons (.lst false (.cons .non (.cons (.neg (.int 2)) (.cons (.int 22) (.cons (.bl false) (.cons (.str "0") (.cons .edic .nil))))))) .nil))) .nil))))
    (.cons (.asg (.nm true 2) (.lst true (.cons (.lam i__law_fault (.call i_powers_sum (.cons (.var 3) (.cons (.var 7) .nil)))) .nil)))
    (.cons (.ex (.mth .append (.var 2) (.cons (.lam i__law_fault (.call i_powers_sum (.cons (.int 4) (.cons (.var 7) .nil)))) .nil)))
    (.cons (.ex (.mth .append (.var 2) (.cons (.lam i__law_fault (.call i_powers_sum (.cons (.int 4) (.cons (.bin false .mul (.tup (.cons (.var 4) .nil)) (.int 50)) .nil)))) .nil)))
    (.cons (.ex (.mth .append (.var 2) (.cons (.lam i__law_fault (.call i_powers_sum (.cons (.int 4) (.cons (.bin false .mul (.tup (.cons (.var 4) .nil)) (.int 49)) .nil)))) .nil)))
    (.cons (.ifs (.cmp .ne (.var 2) (.lst false (.cons (.tup (.cons (.str "refused") (.cons (.rep (.var 3)) .nil))) (.cons (.tup (.cons (.str "refused") (.cons (.str "operation") .nil))) (.cons (.tup (.cons (.str "let") (.cons .non .nil))) (.cons (.tup (.cons (.str "refused") (.cons (.tup (.cons (.str "bottom") (.cons (.int 2) .nil))) .nil))) .nil)))))) (.cons (.ret (.bl false))
    .nil) .nil)
    (.cons (.asg (.nm true 2) (.lst true (.cons (.lam i__law_fault (.call i_monomial_powers (.cons (.var 5) (.cons (.var 6) .nil)))) .nil)))
    (.cons (.ex (.mth .append (.var 2) (.cons (.lam i__law_fault (.call i_monomial_powers (.cons (.int 3) (.cons (.var 6) .nil)))) .nil)))
    (.cons (.ex (.mth .append (.var 2) (.cons (.lam i__law_fault (.call i_monomial_powers (.cons (.int 0) (.cons (.int 20) .nil)))) .nil)))
    (.cons (.ret (.cmp .eq (.var 2) (.lst false (.cons (.tup (.cons (.str "refused") (.cons (.rep (.var 5)) .nil))) (.cons (.tup (.cons (.str "refused") (.cons (.rep (.var 6)) .nil))) (.cons (.tup (.cons (.str "let") (.cons .non .nil))) .nil))))))
    .nil)))))))))))))), true, false, false⟩
def f_law : Fn := ⟨1, 4, (.cons (.fr (.nm false 1) .rng (.cons (.blt .max false (.cons (.int 1) (.cons (.blt .min false (.cons (.int 5) (.cons (.blt .len false (.cons (.var 0) .nil)) .nil))) .nil))) .nil) (.cons (.asg (.nm true 2) (.call i__law_dice (.cons (.var 0) (.cons (.var 1) .nil))))
    (.cons (.asg (.nm false 3) (.mk 1 (.cons (.call i__law_small_form (.cons (.var 2) (.cons (.call i__law_roll (.cons (.var 2) (.cons (.int 5) .nil))) (.cons (.int 3) .nil)))) .nil)))
    (.cons (.ifs (.or (.nt (.call i__law_forms_right (.cons (.var 2) (.cons (.var 3) .nil)))) (.nt (.call i__law_sums_right (.cons (.var 2) .nil)))) (.cons (.ret (.bl false))
    .nil) .nil)
    .nil))))
    (.cons (.ret (.and (.cmp .eq (.idx (.call i_powers_paper (.cons (.mk 1 (.cons (.tup (.cons (.int 1) (.cons (.int 1) (.cons (.int 1) .nil)))) .nil)) (.cons (.int 50) .nil))) (.int 0)) (.str "powers")) (.att (.call i_powers_sum (.cons (.int 40) (.cons (.tup .nil) .nil))) 4)))
    .nil)), true, false, false⟩
def f_Told___init__ : Fn := ⟨2, 2, (.cons (.asg (.fld (.var 0) 0) (.var 1))
    .nil), true, false, false⟩
def f_Form___init__ : Fn := ⟨2, 2, (.cons (.ifs (.and (.nt (.isi (.cls 0) (.var 1))) (.nt (.call i_are_entries (.cons (.var 1) .nil)))) (.cons (.rse 1 .nil)
    .nil) .nil)
    (.cons (.asg (.fld (.var 0) 1) (.ite (.isi (.cls 0) (.var 1)) (.att (.var 1) 0) (.var 1)))
    .nil)), true, false, false⟩
def f_Form_entries : Fn := ⟨1, 1, (.cons (.ret (.att (.var 0) 1))
    .nil), true, false, false⟩
def f_Form_degree : Fn := ⟨1, 1, (.cons (.ret (.bin false .sub (.blt .len false (.cons (.att (.var 0) 1) .nil)) (.int 1)))
    .nil), true, false, false⟩
def f_Form_is_zero : Fn := ⟨1, 1, (.cons (.ret (.call i_is_zero_in (.cons (.att (.var 0) 1) .nil)))
    .nil), true, false, false⟩
def f_Form___mul__ : Fn := ⟨2, 4, (.cons (.ifs (.isi (.cls 1) (.var 1)) (.cons (.ifs (.cmp .gt (.bin false .add (.att (.var 0) 3) (.att (.var 1) 3)) (.glo 1)) (.cons (.rse 5 (.cons (.glo 1) .nil))
    .nil) .nil)
    (.cons (.ret (.call i_form_of (.cons (.call i_joined_entries (.cons (.att (.var 0) 1) (.cons (.att (.var 1) 1) .nil))) .nil)))
    .nil)) .nil)
    (.cons (.ifs (.nt (.call i_is_whole (.cons (.var 1) .nil))) (.cons (.ret .bad)
    .nil) .nil)
    (.cons (.ex (.call i_require_short (.cons (.var 1) .nil)))
    (.cons (.ret (.call i_form_of (.cons (.blt .tuple false (.cons (.cmp1 false (.bin false .mul (.var 3) (.var 1)) (.nm true 3) .seq (.cons (.att (.var 0) 1) .nil) .nil [2, 3]) .nil)) .nil)))
    .nil)))), true, false, false⟩
def fns : List Fn := [f_is_whole, f_is_short, f_is_from, f_are_wholes, f_are_short, f_require_short, f_require_from, f_shared_of, f_first_of, f_primitive_of, f_raised_to, f_factorial_of, f_lots_of, f_is_point_any, f_is_point, f_lowest_of, f_is_pair_of_ratio, f_is_ratio_any, f_is_ratio_in, f_less_head, f_echelon_rows, f_lead_of, f_rank_of, f_kernel_rows, f_joined_entries, f_derived_in, f_is_zero_in, f_are_entries, f_form_of, f_require_form, f_level_entries, f_level_rows, f_killed_in, f_does_kill_in, f_ranks_in, f_killers_in, f_does_kill, f_killer_ranks, f_killers, f_moved_rows, f_has_root_twice, f_split_value, f_split_slope, f_split_inverse, f_left_by, f_is_simple_by, f_next_prime_of, f_lifted_root, f_point_by, f_with_line, f_simple_points, f_split_points, f_power_entries, f_numbers_in, f_summed_in, f_terms_at, f_many_points, f_first_killer, f_least_powers, f_require_form_and_many, f_powers_paper, f_is_term, f_are_terms_of, f_is_killer_paper, f_is_open_paper, f_is_powers_paper, f_are_different_points, f_numbers_at, f_are_sum_terms, f_powers_sum, f_monomial_powers, f__law_dice, f__law_roll, f__law_pick, f__law_near, f__law_small_form, f__law_fault, f__law_forms_right, f__law_sums_right, f_law, f_Told___init__, f_Form___init__, f_Form_entries, f_Form_degree, f_Form_is_zero, f_Form___mul__]
def consI : List Val := [.int 1000000000000000000000000000000000000000000000000000000000000, .int 40, .int 43, .int 50, .int 40, .int 20, .int 2, .str "powers", .str "rank", .str "killer"]
def clss : List Cls := [⟨1, 80, [(0, .slot 0)], none⟩, ⟨1, 81, [(1, .slot 0), (2, .prop 82), (3, .prop 83), (4, .prop 84)], some 85⟩]
def exmT : List (List Bool) := [[true, false, false, false, false, false, false], [true, true, false, false, false, false, false], [true, false, true, false, false, false, false], [true, false, false, true, false, false, false], [false, false, false, false, true, false, false], [false, false, false, false, false, true, false], [false, false, false, false, false, false, true]]
def lawIx : Nat := 79
def pg : Pg := ⟨fns, clss, consI, fun a b => (exmT.getD a []).getD b false⟩
end K73
end

section
set_option Elab.async false
set_option linter.all false
set_option maxRecDepth 100000
namespace K73
open Mn
section
variable {d : Nat} {O O0 : Store} {k n : Nat}
def okV : Val → Bool
  | .own _ => false
  | .fn _ => false
  | .exn _ _ => false
  | .scr _ => false
  | .obj c _ => Nat.blt c 2
  | _ => true
def isWhole : Val → Bool
  | .int _ => true
  | _ => false
def isTyB (t : Ty) (v : Val) : Bool := (isTyP pg t v).getD false
theorem isTy_ok (t : Ty) {v : Val} (h : okV v = true) : isTyP pg t v = some (isTyB t v) := by
  unfold isTyB
  cases v with
  | own k => cases h
  | fn f => cases h
  | exn c p => cases h
  | scr l => cases h
  | obj c l =>
    have hc : c < 2 := by simpa [okV, Nat.blt_eq] using h
    match c, hc with
    | 0, _ => rfl
    | 1, _ => rfl
  | _ => rfl
theorem is_whole_ok {v : Val} (hO : StOk O) (h : okV v = true) : callAt pg (d + 1) i_is_whole [v] O = .ok (.bl (isWhole v)) O := by
  rw [call_run (F := f_is_whole) rfl rfl]
  unfold f_is_whole
  simp only [exs_nil, exs_cons, nxt_nx, nxt_rt, ex_asgQ, ex_ex, ex_ret, ex_ifs, ex_rse, ex_aug, augR_int, ex_augS, augSR_int, oF_some, ev_var, ev_glo, ev_fn, ev_non, ev_bl, ev_int, ev_str, ev_edic, ev_binQ, ev_neg, negR_int, ev_nt, notR_bl, ev_cmp, oB_some, ev_chn, ev_and, ev_or, ev_ite, ev_tup, ev_tupk, ev_lst, ev_isi, ev_intq, intqR_int, ev_idx, ev_sl, ev_rev, ev_call, ev_callV, callVR_fn, ev_blt, ev_mth, mthR_some, ev_att, attR_l, attR_r, noX_ok, ev_mk, mkQ_some, nonR_non, ev_nx0, evs'_nil, evs'_cons, evs_nil, evs_cons, evs_star, starR_some, embR_some, conds_nil, conds_one, isB_bl, asg_t, asg_f, asg_tp, tpR_2, tpR_2l, tpR_3, asg_sub, asg_fld, oS_some, asgs_nil, asgs_cons, tst_t, tst_f, getV_some, bind_ok, bind_exc, ofO_some, ofO2_some, chnR_t, chnR_f, itB_some, close_non, close_bl, close_int, close_str, close_tup, close_lst, close_obj, close_fn, close_edic, close_scr, emb_t, emb_f, bin_add, bin_sub, bin_addt, bin_addl, binV_add, binV_sub, cmp_lt, cmp_le, cmp_gt, cmp_ge, cmp_eqi, cmp_nei, seqOf_tup, seqOf_lst, listOf_lst, mkIt_tup, mkIt_lst, foTurn_nx, whTurn_nx, trn_nx, trn_rt, cpIf_t, cpIf_f, List.getElem?_cons_zero, List.getElem?_cons_succ, List.set_cons_zero, List.set_cons_succ, wipe_nil, wipe_cons, endR_rt, endR_nx, leave_non, leave_bl, leave_int, leave_str, leave_tup, leave_lst, leave_obj, lt_nil, lt_cons, vlt_int, vlt_bl, vlt_str, vlt_non, vlt_tup, vlt_lst, vlt_obj, lt_ints, anyOwn_ints, blt_gcd, blt_abs, blt_toInt, blt_toIntb, blt_min, blt_max, blt_lent, blt_lenl, blt_lens, blt_listt, blt_listl, List.map_cons, List.map_nil, List.replicate, List.cons_append, List.nil_append, Bool.and_true, Bool.and_self, decide_true, decide_false, Bool.not_true, Bool.not_false, isTy_ok _ h, hO]
  cases v with
  | own k => cases h
  | fn f => cases h
  | exn c p => cases h
  | scr l => cases h
  | obj c l =>
    have hc : c < 2 := by simpa [okV, Nat.blt_eq] using h
    match c, hc with
    | 0, _ => exact leave_bl _ hO
    | 1, _ => exact leave_bl _ hO
  | _ => exact leave_bl _ hO
def G60 : Int := 1000000000000000000000000000000000000000000000000000000000000
def isShort : Val → Bool
  | .int i => decide (-G60 < i) && decide (i < G60)
  | _ => false
theorem cons0 : pg.cons[0]? = some (.int G60) := rfl
theorem is_short_ok {v : Val} (hO : StOk O) (h : okV v = true) : callAt pg (d + 2) i_is_short [v] O = .ok (.bl (isShort v)) O := by
  rw [call_run (F := f_is_short) rfl rfl]
  unfold f_is_short
  simp only [exs_nil, exs_cons, nxt_nx, nxt_rt, ex_asgQ, ex_ex, ex_ret, ex_ifs, ex_rse, ex_aug, augR_int, ex_augS, augSR_int, oF_some, ev_var, ev_glo, ev_fn, ev_non, ev_bl, ev_int, ev_str, ev_edic, ev_binQ, ev_neg, negR_int, ev_nt, notR_bl, ev_cmp, oB_some, ev_chn, ev_and, ev_or, ev_ite, ev_tup, ev_tupk, ev_lst, ev_isi, ev_intq, intqR_int, ev_idx, ev_sl, ev_rev, ev_call, ev_callV, callVR_fn, ev_blt, ev_mth, mthR_some, ev_att, attR_l, attR_r, noX_ok, ev_mk, mkQ_some, nonR_non, ev_nx0, evs'_nil, evs'_cons, evs_nil, evs_cons, evs_star, starR_some, embR_some, conds_nil, conds_one, isB_bl, asg_t, asg_f, asg_tp, tpR_2, tpR_2l, tpR_3, asg_sub, asg_fld, oS_some, asgs_nil, asgs_cons, tst_t, tst_f, getV_some, bind_ok, bind_exc, ofO_some, ofO2_some, chnR_t, chnR_f, itB_some, close_non, close_bl, close_int, close_str, close_tup, close_lst, close_obj, close_fn, close_edic, close_scr, emb_t, emb_f, bin_add, bin_sub, bin_addt, bin_addl, binV_add, binV_sub, cmp_lt, cmp_le, cmp_gt, cmp_ge, cmp_eqi, cmp_nei, seqOf_tup, seqOf_lst, listOf_lst, mkIt_tup, mkIt_lst, foTurn_nx, whTurn_nx, trn_nx, trn_rt, cpIf_t, cpIf_f, List.getElem?_cons_zero, List.getElem?_cons_succ, List.set_cons_zero, List.set_cons_succ, wipe_nil, wipe_cons, endR_rt, endR_nx, leave_non, leave_bl, leave_int, leave_str, leave_tup, leave_lst, leave_obj, lt_nil, lt_cons, vlt_int, vlt_bl, vlt_str, vlt_non, vlt_tup, vlt_lst, vlt_obj, lt_ints, anyOwn_ints, blt_gcd, blt_abs, blt_toInt, blt_toIntb, blt_min, blt_max, blt_lent, blt_lenl, blt_lens, blt_listt, blt_listl, List.map_cons, List.map_nil, List.replicate, List.cons_append, List.nil_append, Bool.and_true, Bool.and_self, decide_true, decide_false, Bool.not_true, Bool.not_false, is_whole_ok hO h, cons0]
  cases v with
  | int i =>
    unfold isWhole isShort
    by_cases h1 : -G60 < i
    · simp only [exs_nil, exs_cons, nxt_nx, nxt_rt, ex_asgQ, ex_ex, ex_ret, ex_ifs, ex_rse, ex_aug, augR_int, ex_augS, augSR_int, oF_some, ev_var, ev_glo, ev_fn, ev_non, ev_bl, ev_int, ev_str, ev_edic, ev_binQ, ev_neg, negR_int, ev_nt, notR_bl, ev_cmp, oB_some, ev_chn, ev_and, ev_or, ev_ite, ev_tup, ev_tupk, ev_lst, ev_isi, ev_intq, intqR_int, ev_idx, ev_sl, ev_rev, ev_call, ev_callV, callVR_fn, ev_blt, ev_mth, mthR_some, ev_att, attR_l, attR_r, noX_ok, ev_mk, mkQ_some, nonR_non, ev_nx0, evs'_nil, evs'_cons, evs_nil, evs_cons, evs_star, starR_some, embR_some, conds_nil, conds_one, isB_bl, asg_t, asg_f, asg_tp, tpR_2, tpR_2l, tpR_3, asg_sub, asg_fld, oS_some, asgs_nil, asgs_cons, tst_t, tst_f, getV_some, bind_ok, bind_exc, ofO_some, ofO2_some, chnR_t, chnR_f, itB_some, close_non, close_bl, close_int, close_str, close_tup, close_lst, close_obj, close_fn, close_edic, close_scr, emb_t, emb_f, bin_add, bin_sub, bin_addt, bin_addl, binV_add, binV_sub, cmp_lt, cmp_le, cmp_gt, cmp_ge, cmp_eqi, cmp_nei, seqOf_tup, seqOf_lst, listOf_lst, mkIt_tup, mkIt_lst, foTurn_nx, whTurn_nx, trn_nx, trn_rt, cpIf_t, cpIf_f, List.getElem?_cons_zero, List.getElem?_cons_succ, List.set_cons_zero, List.set_cons_succ, wipe_nil, wipe_cons, endR_rt, endR_nx, leave_non, leave_bl, leave_int, leave_str, leave_tup, leave_lst, leave_obj, lt_nil, lt_cons, vlt_int, vlt_bl, vlt_str, vlt_non, vlt_tup, vlt_lst, vlt_obj, lt_ints, anyOwn_ints, blt_gcd, blt_abs, blt_toInt, blt_toIntb, blt_min, blt_max, blt_lent, blt_lenl, blt_lens, blt_listt, blt_listl, List.map_cons, List.map_nil, List.replicate, List.cons_append, List.nil_append, Bool.and_true, Bool.and_self, decide_true, decide_false, Bool.not_true, Bool.not_false, h1, cons0, hO, Bool.true_and]
    · simp only [exs_nil, exs_cons, nxt_nx, nxt_rt, ex_asgQ, ex_ex, ex_ret, ex_ifs, ex_rse, ex_aug, augR_int, ex_augS, augSR_int, oF_some, ev_var, ev_glo, ev_fn, ev_non, ev_bl, ev_int, ev_str, ev_edic, ev_binQ, ev_neg, negR_int, ev_nt, notR_bl, ev_cmp, oB_some, ev_chn, ev_and, ev_or, ev_ite, ev_tup, ev_tupk, ev_lst, ev_isi, ev_intq, intqR_int, ev_idx, ev_sl, ev_rev, ev_call, ev_callV, callVR_fn, ev_blt, ev_mth, mthR_some, ev_att, attR_l, attR_r, noX_ok, ev_mk, mkQ_some, nonR_non, ev_nx0, evs'_nil, evs'_cons, evs_nil, evs_cons, evs_star, starR_some, embR_some, conds_nil, conds_one, isB_bl, asg_t, asg_f, asg_tp, tpR_2, tpR_2l, tpR_3, asg_sub, asg_fld, oS_some, asgs_nil, asgs_cons, tst_t, tst_f, getV_some, bind_ok, bind_exc, ofO_some, ofO2_some, chnR_t, chnR_f, itB_some, close_non, close_bl, close_int, close_str, close_tup, close_lst, close_obj, close_fn, close_edic, close_scr, emb_t, emb_f, bin_add, bin_sub, bin_addt, bin_addl, binV_add, binV_sub, cmp_lt, cmp_le, cmp_gt, cmp_ge, cmp_eqi, cmp_nei, seqOf_tup, seqOf_lst, listOf_lst, mkIt_tup, mkIt_lst, foTurn_nx, whTurn_nx, trn_nx, trn_rt, cpIf_t, cpIf_f, List.getElem?_cons_zero, List.getElem?_cons_succ, List.set_cons_zero, List.set_cons_succ, wipe_nil, wipe_cons, endR_rt, endR_nx, leave_non, leave_bl, leave_int, leave_str, leave_tup, leave_lst, leave_obj, lt_nil, lt_cons, vlt_int, vlt_bl, vlt_str, vlt_non, vlt_tup, vlt_lst, vlt_obj, lt_ints, anyOwn_ints, blt_gcd, blt_abs, blt_toInt, blt_toIntb, blt_min, blt_max, blt_lent, blt_lenl, blt_lens, blt_listt, blt_listl, List.map_cons, List.map_nil, List.replicate, List.cons_append, List.nil_append, Bool.and_true, Bool.and_self, decide_true, decide_false, Bool.not_true, Bool.not_false, h1, cons0, hO, Bool.false_and]
  | _ => unfold isWhole isShort; simp only [exs_nil, exs_cons, nxt_nx, nxt_rt, ex_asgQ, ex_ex, ex_ret, ex_ifs, ex_rse, ex_aug, augR_int, ex_augS, augSR_int, oF_some, ev_var, ev_glo, ev_fn, ev_non, ev_bl, ev_int, ev_str, ev_edic, ev_binQ, ev_neg, negR_int, ev_nt, notR_bl, ev_cmp, oB_some, ev_chn, ev_and, ev_or, ev_ite, ev_tup, ev_tupk, ev_lst, ev_isi, ev_intq, intqR_int, ev_idx, ev_sl, ev_rev, ev_call, ev_callV, callVR_fn, ev_blt, ev_mth, mthR_some, ev_att, attR_l, attR_r, noX_ok, ev_mk, mkQ_some, nonR_non, ev_nx0, evs'_nil, evs'_cons, evs_nil, evs_cons, evs_star, starR_some, embR_some, conds_nil, conds_one, isB_bl, asg_t, asg_f, asg_tp, tpR_2, tpR_2l, tpR_3, asg_sub, asg_fld, oS_some, asgs_nil, asgs_cons, tst_t, tst_f, getV_some, bind_ok, bind_exc, ofO_some, ofO2_some, chnR_t, chnR_f, itB_some, close_non, close_bl, close_int, close_str, close_tup, close_lst, close_obj, close_fn, close_edic, close_scr, emb_t, emb_f, bin_add, bin_sub, bin_addt, bin_addl, binV_add, binV_sub, cmp_lt, cmp_le, cmp_gt, cmp_ge, cmp_eqi, cmp_nei, seqOf_tup, seqOf_lst, listOf_lst, mkIt_tup, mkIt_lst, foTurn_nx, whTurn_nx, trn_nx, trn_rt, cpIf_t, cpIf_f, List.getElem?_cons_zero, List.getElem?_cons_succ, List.set_cons_zero, List.set_cons_succ, wipe_nil, wipe_cons, endR_rt, endR_nx, leave_non, leave_bl, leave_int, leave_str, leave_tup, leave_lst, leave_obj, lt_nil, lt_cons, vlt_int, vlt_bl, vlt_str, vlt_non, vlt_tup, vlt_lst, vlt_obj, lt_ints, anyOwn_ints, blt_gcd, blt_abs, blt_toInt, blt_toIntb, blt_min, blt_max, blt_lent, blt_lenl, blt_lens, blt_listt, blt_listl, List.map_cons, List.map_nil, List.replicate, List.cons_append, List.nil_append, Bool.and_true, Bool.and_self, decide_true, decide_false, Bool.not_true, Bool.not_false, hO]
theorem truthL_map (f : Val → Bool) : ∀ l : List Val, truthL (l.map fun v => Val.bl (f v)) = some (l.map f)
  | [] => rfl
  | v :: r => by
    show (match truth (.bl (f v)), truthL (r.map fun v => Val.bl (f v)) with
      | some b, some l => some (b :: l)
      | _, _ => none) = _
    rw [truthL_map f r]; rfl
theorem anyOwn_bl (f : Val → Bool) : ∀ l : List Val, anyOwn (l.map fun v => Val.bl (f v)) = false
  | [] => rfl
  | v :: r => by
    show (isOwn (.bl (f v)) || anyOwn (r.map fun v => Val.bl (f v))) = false
    rw [anyOwn_bl f r]; rfl
theorem blt_all (kp : Bool) (f : Val → Bool) (l : List Val) (O : Store) : bltV .all kp [.lst (l.map fun v => Val.bl (f v))] O = some (.bl (l.all f), O) := by
  show (match seqOf O (.lst (l.map fun v => Val.bl (f v))) with
    | some l => match truthL l with | some r => some (Val.bl (r.all id), O) | none => none
    | none => none) = _
  rw [seqOf_lst]
  dsimp only
  rw [truthL_map]
  simp [List.all_map]
theorem filter_t (l : List Val) : l.filter (fun _ => true) = l := by simp
theorem comp_tup {X : Ctx} {elt : Ex} {t : Tg} {ρ0 : Env} {l : List Val} (g : Val → Val) (hl : l.length < 16777216)
    (hturn : ∀ v, v ∈ l → ∀ acc : List Val, acc.length < 16777216 → cpTurn X elt t .nil ρ0 v acc O = .ok (g v :: acc, true) O) :
    loopI (itGet (.seq (.tup l))) (cpTurn X elt t .nil ρ0) TURNS 0 [] O = .ok (l.map g).reverse O := by
  have h := comp_fold (get := itGet (.seq (.tup l))) (p := fun _ => true) (g := g) hl (fun i _ => get_tup l i) hturn
  rw [filter_t] at h
  exact h
theorem comp_lst {X : Ctx} {elt : Ex} {t : Tg} {ρ0 : Env} {l : List Val} (g : Val → Val) (hl : l.length < 16777216)
    (hturn : ∀ v, v ∈ l → ∀ acc : List Val, acc.length < 16777216 → cpTurn X elt t .nil ρ0 v acc O = .ok (g v :: acc, true) O) :
    loopI (itGet (.seq (.lst l))) (cpTurn X elt t .nil ρ0) TURNS 0 [] O = .ok (l.map g).reverse O := by
  have h := comp_fold (get := itGet (.seq (.lst l))) (p := fun _ => true) (g := g) hl (fun i _ => get_lst l i) hturn
  rw [filter_t] at h
  exact h
def arShort : Val → Bool
  | .tup l => l.all isShort
  | _ => false
theorem are_short_t {l : List Val} (hO : StOk O) (hl : l.length < 16777216) (h : ∀ v ∈ l, okV v = true) : callAt pg (d + 3) i_are_short [.tup l] O = .ok (.bl (l.all isShort)) O := by
  rw [call_run (F := f_are_short) rfl rfl]
  unfold f_are_short
  simp only [exs_nil, exs_cons, nxt_nx, nxt_rt, ex_asgQ, ex_ex, ex_ret, ex_ifs, ex_rse, ex_aug, augR_int, ex_augS, augSR_int, oF_some, ev_var, ev_glo, ev_fn, ev_non, ev_bl, ev_int, ev_str, ev_edic, ev_binQ, ev_neg, negR_int, ev_nt, notR_bl, ev_cmp, oB_some, ev_chn, ev_and, ev_or, ev_ite, ev_tup, ev_tupk, ev_lst, ev_isi, ev_intq, intqR_int, ev_idx, ev_sl, ev_rev, ev_call, ev_callV, callVR_fn, ev_blt, ev_mth, mthR_some, ev_att, attR_l, attR_r, noX_ok, ev_mk, mkQ_some, nonR_non, ev_nx0, evs'_nil, evs'_cons, evs_nil, evs_cons, evs_star, starR_some, embR_some, conds_nil, conds_one, isB_bl, asg_t, asg_f, asg_tp, tpR_2, tpR_2l, tpR_3, asg_sub, asg_fld, oS_some, asgs_nil, asgs_cons, tst_t, tst_f, getV_some, bind_ok, bind_exc, ofO_some, ofO2_some, chnR_t, chnR_f, itB_some, close_non, close_bl, close_int, close_str, close_tup, close_lst, close_obj, close_fn, close_edic, close_scr, emb_t, emb_f, bin_add, bin_sub, bin_addt, bin_addl, binV_add, binV_sub, cmp_lt, cmp_le, cmp_gt, cmp_ge, cmp_eqi, cmp_nei, seqOf_tup, seqOf_lst, listOf_lst, mkIt_tup, mkIt_lst, foTurn_nx, whTurn_nx, trn_nx, trn_rt, cpIf_t, cpIf_f, List.getElem?_cons_zero, List.getElem?_cons_succ, List.set_cons_zero, List.set_cons_succ, wipe_nil, wipe_cons, endR_rt, endR_nx, leave_non, leave_bl, leave_int, leave_str, leave_tup, leave_lst, leave_obj, lt_nil, lt_cons, vlt_int, vlt_bl, vlt_str, vlt_non, vlt_tup, vlt_lst, vlt_obj, lt_ints, anyOwn_ints, blt_gcd, blt_abs, blt_toInt, blt_toIntb, blt_min, blt_max, blt_lent, blt_lenl, blt_lens, blt_listt, blt_listl, List.map_cons, List.map_nil, List.replicate, List.cons_append, List.nil_append, Bool.and_true, Bool.and_self, decide_true, decide_false, Bool.not_true, Bool.not_false, isTy_ok .tuple (v := .tup l) rfl, show isTyB .tuple (.tup l) = true from rfl, ev_cmp1]
  rw [comp_tup (fun v => .bl (isShort v)) hl fun v hv acc ha => ?_]
  · simp only [exs_nil, exs_cons, nxt_nx, nxt_rt, ex_asgQ, ex_ex, ex_ret, ex_ifs, ex_rse, ex_aug, augR_int, ex_augS, augSR_int, oF_some, ev_var, ev_glo, ev_fn, ev_non, ev_bl, ev_int, ev_str, ev_edic, ev_binQ, ev_neg, negR_int, ev_nt, notR_bl, ev_cmp, oB_some, ev_chn, ev_and, ev_or, ev_ite, ev_tup, ev_tupk, ev_lst, ev_isi, ev_intq, intqR_int, ev_idx, ev_sl, ev_rev, ev_call, ev_callV, callVR_fn, ev_blt, ev_mth, mthR_some, ev_att, attR_l, attR_r, noX_ok, ev_mk, mkQ_some, nonR_non, ev_nx0, evs'_nil, evs'_cons, evs_nil, evs_cons, evs_star, starR_some, embR_some, conds_nil, conds_one, isB_bl, asg_t, asg_f, asg_tp, tpR_2, tpR_2l, tpR_3, asg_sub, asg_fld, oS_some, asgs_nil, asgs_cons, tst_t, tst_f, getV_some, bind_ok, bind_exc, ofO_some, ofO2_some, chnR_t, chnR_f, itB_some, close_non, close_bl, close_int, close_str, close_tup, close_lst, close_obj, close_fn, close_edic, close_scr, emb_t, emb_f, bin_add, bin_sub, bin_addt, bin_addl, binV_add, binV_sub, cmp_lt, cmp_le, cmp_gt, cmp_ge, cmp_eqi, cmp_nei, seqOf_tup, seqOf_lst, listOf_lst, mkIt_tup, mkIt_lst, foTurn_nx, whTurn_nx, trn_nx, trn_rt, cpIf_t, cpIf_f, List.getElem?_cons_zero, List.getElem?_cons_succ, List.set_cons_zero, List.set_cons_succ, wipe_nil, wipe_cons, endR_rt, endR_nx, leave_non, leave_bl, leave_int, leave_str, leave_tup, leave_lst, leave_obj, lt_nil, lt_cons, vlt_int, vlt_bl, vlt_str, vlt_non, vlt_tup, vlt_lst, vlt_obj, lt_ints, anyOwn_ints, blt_gcd, blt_abs, blt_toInt, blt_toIntb, blt_min, blt_max, blt_lent, blt_lenl, blt_lens, blt_listt, blt_listl, List.map_cons, List.map_nil, List.replicate, List.cons_append, List.nil_append, Bool.and_true, Bool.and_self, decide_true, decide_false, Bool.not_true, Bool.not_false, List.reverse_reverse, newL_f (by rw [List.length_map]; omega) (anyOwn_bl isShort l), blt_all, hO]
  · unfold cpTurn
    simp only [exs_nil, exs_cons, nxt_nx, nxt_rt, ex_asgQ, ex_ex, ex_ret, ex_ifs, ex_rse, ex_aug, augR_int, ex_augS, augSR_int, oF_some, ev_var, ev_glo, ev_fn, ev_non, ev_bl, ev_int, ev_str, ev_edic, ev_binQ, ev_neg, negR_int, ev_nt, notR_bl, ev_cmp, oB_some, ev_chn, ev_and, ev_or, ev_ite, ev_tup, ev_tupk, ev_lst, ev_isi, ev_intq, intqR_int, ev_idx, ev_sl, ev_rev, ev_call, ev_callV, callVR_fn, ev_blt, ev_mth, mthR_some, ev_att, attR_l, attR_r, noX_ok, ev_mk, mkQ_some, nonR_non, ev_nx0, evs'_nil, evs'_cons, evs_nil, evs_cons, evs_star, starR_some, embR_some, conds_nil, conds_one, isB_bl, asg_t, asg_f, asg_tp, tpR_2, tpR_2l, tpR_3, asg_sub, asg_fld, oS_some, asgs_nil, asgs_cons, tst_t, tst_f, getV_some, bind_ok, bind_exc, ofO_some, ofO2_some, chnR_t, chnR_f, itB_some, close_non, close_bl, close_int, close_str, close_tup, close_lst, close_obj, close_fn, close_edic, close_scr, emb_t, emb_f, bin_add, bin_sub, bin_addt, bin_addl, binV_add, binV_sub, cmp_lt, cmp_le, cmp_gt, cmp_ge, cmp_eqi, cmp_nei, seqOf_tup, seqOf_lst, listOf_lst, mkIt_tup, mkIt_lst, foTurn_nx, whTurn_nx, trn_nx, trn_rt, cpIf_t, cpIf_f, List.getElem?_cons_zero, List.getElem?_cons_succ, List.set_cons_zero, List.set_cons_succ, wipe_nil, wipe_cons, endR_rt, endR_nx, leave_non, leave_bl, leave_int, leave_str, leave_tup, leave_lst, leave_obj, lt_nil, lt_cons, vlt_int, vlt_bl, vlt_str, vlt_non, vlt_tup, vlt_lst, vlt_obj, lt_ints, anyOwn_ints, blt_gcd, blt_abs, blt_toInt, blt_toIntb, blt_min, blt_max, blt_lent, blt_lenl, blt_lens, blt_listt, blt_listl, List.map_cons, List.map_nil, List.replicate, List.cons_append, List.nil_append, Bool.and_true, Bool.and_self, decide_true, decide_false, Bool.not_true, Bool.not_false, is_short_ok hO (h v hv), cpEnd_ok ha]
theorem are_short_n {v : Val} (hO : StOk O) (h : okV v = true) (ht : isTyB .tuple v = false) : callAt pg (d + 3) i_are_short [v] O = .ok (.bl false) O := by
  rw [call_run (F := f_are_short) rfl rfl]
  unfold f_are_short
  simp only [exs_nil, exs_cons, nxt_nx, nxt_rt, ex_asgQ, ex_ex, ex_ret, ex_ifs, ex_rse, ex_aug, augR_int, ex_augS, augSR_int, oF_some, ev_var, ev_glo, ev_fn, ev_non, ev_bl, ev_int, ev_str, ev_edic, ev_binQ, ev_neg, negR_int, ev_nt, notR_bl, ev_cmp, oB_some, ev_chn, ev_and, ev_or, ev_ite, ev_tup, ev_tupk, ev_lst, ev_isi, ev_intq, intqR_int, ev_idx, ev_sl, ev_rev, ev_call, ev_callV, callVR_fn, ev_blt, ev_mth, mthR_some, ev_att, attR_l, attR_r, noX_ok, ev_mk, mkQ_some, nonR_non, ev_nx0, evs'_nil, evs'_cons, evs_nil, evs_cons, evs_star, starR_some, embR_some, conds_nil, conds_one, isB_bl, asg_t, asg_f, asg_tp, tpR_2, tpR_2l, tpR_3, asg_sub, asg_fld, oS_some, asgs_nil, asgs_cons, tst_t, tst_f, getV_some, bind_ok, bind_exc, ofO_some, ofO2_some, chnR_t, chnR_f, itB_some, close_non, close_bl, close_int, close_str, close_tup, close_lst, close_obj, close_fn, close_edic, close_scr, emb_t, emb_f, bin_add, bin_sub, bin_addt, bin_addl, binV_add, binV_sub, cmp_lt, cmp_le, cmp_gt, cmp_ge, cmp_eqi, cmp_nei, seqOf_tup, seqOf_lst, listOf_lst, mkIt_tup, mkIt_lst, foTurn_nx, whTurn_nx, trn_nx, trn_rt, cpIf_t, cpIf_f, List.getElem?_cons_zero, List.getElem?_cons_succ, List.set_cons_zero, List.set_cons_succ, wipe_nil, wipe_cons, endR_rt, endR_nx, leave_non, leave_bl, leave_int, leave_str, leave_tup, leave_lst, leave_obj, lt_nil, lt_cons, vlt_int, vlt_bl, vlt_str, vlt_non, vlt_tup, vlt_lst, vlt_obj, lt_ints, anyOwn_ints, blt_gcd, blt_abs, blt_toInt, blt_toIntb, blt_min, blt_max, blt_lent, blt_lenl, blt_lens, blt_listt, blt_listl, List.map_cons, List.map_nil, List.replicate, List.cons_append, List.nil_append, Bool.and_true, Bool.and_self, decide_true, decide_false, Bool.not_true, Bool.not_false, isTy_ok .tuple h, ht, hO]
theorem are_wholes_t {l : List Val} (hO : StOk O) (hl : l.length < 16777216) (h : ∀ v ∈ l, okV v = true) : callAt pg (d + 2) i_are_wholes [.tup l] O = .ok (.bl (l.all isWhole)) O := by
  rw [call_run (F := f_are_wholes) rfl rfl]
  unfold f_are_wholes
  simp only [exs_nil, exs_cons, nxt_nx, nxt_rt, ex_asgQ, ex_ex, ex_ret, ex_ifs, ex_rse, ex_aug, augR_int, ex_augS, augSR_int, oF_some, ev_var, ev_glo, ev_fn, ev_non, ev_bl, ev_int, ev_str, ev_edic, ev_binQ, ev_neg, negR_int, ev_nt, notR_bl, ev_cmp, oB_some, ev_chn, ev_and, ev_or, ev_ite, ev_tup, ev_tupk, ev_lst, ev_isi, ev_intq, intqR_int, ev_idx, ev_sl, ev_rev, ev_call, ev_callV, callVR_fn, ev_blt, ev_mth, mthR_some, ev_att, attR_l, attR_r, noX_ok, ev_mk, mkQ_some, nonR_non, ev_nx0, evs'_nil, evs'_cons, evs_nil, evs_cons, evs_star, starR_some, embR_some, conds_nil, conds_one, isB_bl, asg_t, asg_f, asg_tp, tpR_2, tpR_2l, tpR_3, asg_sub, asg_fld, oS_some, asgs_nil, asgs_cons, tst_t, tst_f, getV_some, bind_ok, bind_exc, ofO_some, ofO2_some, chnR_t, chnR_f, itB_some, close_non, close_bl, close_int, close_str, close_tup, close_lst, close_obj, close_fn, close_edic, close_scr, emb_t, emb_f, bin_add, bin_sub, bin_addt, bin_addl, binV_add, binV_sub, cmp_lt, cmp_le, cmp_gt, cmp_ge, cmp_eqi, cmp_nei, seqOf_tup, seqOf_lst, listOf_lst, mkIt_tup, mkIt_lst, foTurn_nx, whTurn_nx, trn_nx, trn_rt, cpIf_t, cpIf_f, List.getElem?_cons_zero, List.getElem?_cons_succ, List.set_cons_zero, List.set_cons_succ, wipe_nil, wipe_cons, endR_rt, endR_nx, leave_non, leave_bl, leave_int, leave_str, leave_tup, leave_lst, leave_obj, lt_nil, lt_cons, vlt_int, vlt_bl, vlt_str, vlt_non, vlt_tup, vlt_lst, vlt_obj, lt_ints, anyOwn_ints, blt_gcd, blt_abs, blt_toInt, blt_toIntb, blt_min, blt_max, blt_lent, blt_lenl, blt_lens, blt_listt, blt_listl, List.map_cons, List.map_nil, List.replicate, List.cons_append, List.nil_append, Bool.and_true, Bool.and_self, decide_true, decide_false, Bool.not_true, Bool.not_false, isTy_ok .tuple (v := .tup l) rfl, show isTyB .tuple (.tup l) = true from rfl, ev_cmp1]
  rw [comp_tup (fun v => .bl (isWhole v)) hl fun v hv acc ha => ?_]
  · simp only [exs_nil, exs_cons, nxt_nx, nxt_rt, ex_asgQ, ex_ex, ex_ret, ex_ifs, ex_rse, ex_aug, augR_int, ex_augS, augSR_int, oF_some, ev_var, ev_glo, ev_fn, ev_non, ev_bl, ev_int, ev_str, ev_edic, ev_binQ, ev_neg, negR_int, ev_nt, notR_bl, ev_cmp, oB_some, ev_chn, ev_and, ev_or, ev_ite, ev_tup, ev_tupk, ev_lst, ev_isi, ev_intq, intqR_int, ev_idx, ev_sl, ev_rev, ev_call, ev_callV, callVR_fn, ev_blt, ev_mth, mthR_some, ev_att, attR_l, attR_r, noX_ok, ev_mk, mkQ_some, nonR_non, ev_nx0, evs'_nil, evs'_cons, evs_nil, evs_cons, evs_star, starR_some, embR_some, conds_nil, conds_one, isB_bl, asg_t, asg_f, asg_tp, tpR_2, tpR_2l, tpR_3, asg_sub, asg_fld, oS_some, asgs_nil, asgs_cons, tst_t, tst_f, getV_some, bind_ok, bind_exc, ofO_some, ofO2_some, chnR_t, chnR_f, itB_some, close_non, close_bl, close_int, close_str, close_tup, close_lst, close_obj, close_fn, close_edic, close_scr, emb_t, emb_f, bin_add, bin_sub, bin_addt, bin_addl, binV_add, binV_sub, cmp_lt, cmp_le, cmp_gt, cmp_ge, cmp_eqi, cmp_nei, seqOf_tup, seqOf_lst, listOf_lst, mkIt_tup, mkIt_lst, foTurn_nx, whTurn_nx, trn_nx, trn_rt, cpIf_t, cpIf_f, List.getElem?_cons_zero, List.getElem?_cons_succ, List.set_cons_zero, List.set_cons_succ, wipe_nil, wipe_cons, endR_rt, endR_nx, leave_non, leave_bl, leave_int, leave_str, leave_tup, leave_lst, leave_obj, lt_nil, lt_cons, vlt_int, vlt_bl, vlt_str, vlt_non, vlt_tup, vlt_lst, vlt_obj, lt_ints, anyOwn_ints, blt_gcd, blt_abs, blt_toInt, blt_toIntb, blt_min, blt_max, blt_lent, blt_lenl, blt_lens, blt_listt, blt_listl, List.map_cons, List.map_nil, List.replicate, List.cons_append, List.nil_append, Bool.and_true, Bool.and_self, decide_true, decide_false, Bool.not_true, Bool.not_false, List.reverse_reverse, newL_f (by rw [List.length_map]; omega) (anyOwn_bl isWhole l), blt_all, hO]
  · unfold cpTurn
    simp only [exs_nil, exs_cons, nxt_nx, nxt_rt, ex_asgQ, ex_ex, ex_ret, ex_ifs, ex_rse, ex_aug, augR_int, ex_augS, augSR_int, oF_some, ev_var, ev_glo, ev_fn, ev_non, ev_bl, ev_int, ev_str, ev_edic, ev_binQ, ev_neg, negR_int, ev_nt, notR_bl, ev_cmp, oB_some, ev_chn, ev_and, ev_or, ev_ite, ev_tup, ev_tupk, ev_lst, ev_isi, ev_intq, intqR_int, ev_idx, ev_sl, ev_rev, ev_call, ev_callV, callVR_fn, ev_blt, ev_mth, mthR_some, ev_att, attR_l, attR_r, noX_ok, ev_mk, mkQ_some, nonR_non, ev_nx0, evs'_nil, evs'_cons, evs_nil, evs_cons, evs_star, starR_some, embR_some, conds_nil, conds_one, isB_bl, asg_t, asg_f, asg_tp, tpR_2, tpR_2l, tpR_3, asg_sub, asg_fld, oS_some, asgs_nil, asgs_cons, tst_t, tst_f, getV_some, bind_ok, bind_exc, ofO_some, ofO2_some, chnR_t, chnR_f, itB_some, close_non, close_bl, close_int, close_str, close_tup, close_lst, close_obj, close_fn, close_edic, close_scr, emb_t, emb_f, bin_add, bin_sub, bin_addt, bin_addl, binV_add, binV_sub, cmp_lt, cmp_le, cmp_gt, cmp_ge, cmp_eqi, cmp_nei, seqOf_tup, seqOf_lst, listOf_lst, mkIt_tup, mkIt_lst, foTurn_nx, whTurn_nx, trn_nx, trn_rt, cpIf_t, cpIf_f, List.getElem?_cons_zero, List.getElem?_cons_succ, List.set_cons_zero, List.set_cons_succ, wipe_nil, wipe_cons, endR_rt, endR_nx, leave_non, leave_bl, leave_int, leave_str, leave_tup, leave_lst, leave_obj, lt_nil, lt_cons, vlt_int, vlt_bl, vlt_str, vlt_non, vlt_tup, vlt_lst, vlt_obj, lt_ints, anyOwn_ints, blt_gcd, blt_abs, blt_toInt, blt_toIntb, blt_min, blt_max, blt_lent, blt_lenl, blt_lens, blt_listt, blt_listl, List.map_cons, List.map_nil, List.replicate, List.cons_append, List.nil_append, Bool.and_true, Bool.and_self, decide_true, decide_false, Bool.not_true, Bool.not_false, is_whole_ok hO (h v hv), cpEnd_ok ha]
abbrev Xc (d : Nat) : Mn.Ctx := ⟨pg, true, callAt pg d, callLAt pg d, fun _ => .bad⟩
def SmL (n : Nat) (l : List Int) : Prop := ∀ x ∈ l, Sm n x
def frm (l : List Int) : Val := .obj 1 [.tup (l.map .int)]
theorem frm_lt (n : Nat) (l : List Int) : (frm l).lt n = true := by
  show (ltAll n (l.map .int) && true) = true
  rw [lt_ints]; rfl
def kTold : Cls := ⟨1, i_Told___init__, [(0, .slot 0)], none⟩
theorem cls0 : pg.cls[0]? = some kTold := rfl
def kForm : Cls := ⟨1, i_Form___init__, [(1, .slot 0), (2, .prop i_Form_entries), (3, .prop i_Form_degree), (4, .prop i_Form_is_zero)], some i_Form___mul__⟩
theorem cls1 : pg.cls[1]? = some kForm := rfl
theorem att_own (v : Val) : attOf pg O (.obj 1 [v]) 1 = some (.inl v) := Eq.trans rfl rfl
theorem att_row (v : Val) : attOf pg O (.obj 0 [v]) 0 = some (.inl v) := Eq.trans rfl rfl
theorem att_ent (v : Val) : attOf pg O (.obj 1 [v]) 2 = some (.inr i_Form_entries) := Eq.trans rfl rfl
theorem att_deg (v : Val) : attOf pg O (.obj 1 [v]) 3 = some (.inr i_Form_degree) := Eq.trans rfl rfl
theorem att_zero (v : Val) : attOf pg O (.obj 1 [v]) 4 = some (.inr i_Form_is_zero) := Eq.trans rfl rfl
theorem are_entries_ok {l : List Int} (hO : StOk O) (hl : l.length ≤ 41) (h1 : 1 ≤ l.length) (hs : ∀ x ∈ l, isShort (.int x) = true) : callAt pg (d + 4) i_are_entries [.tup (l.map .int)] O = .ok (.bl true) O := by
  rw [call_run (F := f_are_entries) rfl rfl]
  unfold f_are_entries
  have e : (l.map Val.int).all isShort = true := by
    rw [List.all_map, List.all_eq_true]
    exact hs
  have c1 : pg.cons[1]? = some (.int 40) := rfl
  simp only [exs_nil, exs_cons, nxt_nx, nxt_rt, ex_asgQ, ex_ex, ex_ret, ex_ifs, ex_rse, ex_aug, augR_int, ex_augS, augSR_int, oF_some, ev_var, ev_glo, ev_fn, ev_non, ev_bl, ev_int, ev_str, ev_edic, ev_binQ, ev_neg, negR_int, ev_nt, notR_bl, ev_cmp, oB_some, ev_chn, ev_and, ev_or, ev_ite, ev_tup, ev_tupk, ev_lst, ev_isi, ev_intq, intqR_int, ev_idx, ev_sl, ev_rev, ev_call, ev_callV, callVR_fn, ev_blt, ev_mth, mthR_some, ev_att, attR_l, attR_r, noX_ok, ev_mk, mkQ_some, nonR_non, ev_nx0, evs'_nil, evs'_cons, evs_nil, evs_cons, evs_star, starR_some, embR_some, conds_nil, conds_one, isB_bl, asg_t, asg_f, asg_tp, tpR_2, tpR_2l, tpR_3, asg_sub, asg_fld, oS_some, asgs_nil, asgs_cons, tst_t, tst_f, getV_some, bind_ok, bind_exc, ofO_some, ofO2_some, chnR_t, chnR_f, itB_some, close_non, close_bl, close_int, close_str, close_tup, close_lst, close_obj, close_fn, close_edic, close_scr, emb_t, emb_f, bin_add, bin_sub, bin_addt, bin_addl, binV_add, binV_sub, cmp_lt, cmp_le, cmp_gt, cmp_ge, cmp_eqi, cmp_nei, seqOf_tup, seqOf_lst, listOf_lst, mkIt_tup, mkIt_lst, foTurn_nx, whTurn_nx, trn_nx, trn_rt, cpIf_t, cpIf_f, List.getElem?_cons_zero, List.getElem?_cons_succ, List.set_cons_zero, List.set_cons_succ, wipe_nil, wipe_cons, endR_rt, endR_nx, leave_non, leave_bl, leave_int, leave_str, leave_tup, leave_lst, leave_obj, lt_nil, lt_cons, vlt_int, vlt_bl, vlt_str, vlt_non, vlt_tup, vlt_lst, vlt_obj, lt_ints, anyOwn_ints, blt_gcd, blt_abs, blt_toInt, blt_toIntb, blt_min, blt_max, blt_lent, blt_lenl, blt_lens, blt_listt, blt_listl, List.map_cons, List.map_nil, List.replicate, List.cons_append, List.nil_append, Bool.and_true, Bool.and_self, decide_true, decide_false, Bool.not_true, Bool.not_false, are_short_t (d := d) (l := l.map .int) hO (by rw [List.length_map]; omega) (fun v hv => by
    obtain ⟨x, _, rfl⟩ := List.mem_map.mp hv
    rfl), e, List.length_map, show (1 : Int) ≤ (l.length : Int) from by omega, c1, show (l.length : Int) ≤ 40 + 1 from by omega, hO]
theorem form_init_tup {l : List Int} (hO : StOk O) (hl : l.length ≤ 41) (h1 : 1 ≤ l.length) (hs : ∀ x ∈ l, isShort (.int x) = true) : callAt pg (d + 5) i_Form___init__ [.own O.length, .tup (l.map .int)] (O ++ [.ins 1 [none]]) = .ok .non (O ++ [.ins 1 [some (.tup (l.map .int))]]) := by
  rw [call_run (F := f_Form___init__) rfl rfl]
  unfold f_Form___init__
  have h : (O ++ [Cell.ins 1 [none]]).set O.length (.ins 1 [some (.tup (l.map .int))]) = O ++ [.ins 1 [some (.tup (l.map .int))]] := by simp
  have ok1 : StOk (O ++ [.ins 1 [none]]) := hO.ins (n := 1)
  have ok2 : StOk (O ++ [.ins 1 [some (.tup (l.map .int))]]) := hO.push (by
    show (ltAll _ (l.map .int) && true) = true
    rw [lt_ints]; rfl)
  simp only [exs_nil, exs_cons, nxt_nx, nxt_rt, ex_asgQ, ex_ex, ex_ret, ex_ifs, ex_rse, ex_aug, augR_int, ex_augS, augSR_int, oF_some, ev_var, ev_glo, ev_fn, ev_non, ev_bl, ev_int, ev_str, ev_edic, ev_binQ, ev_neg, negR_int, ev_nt, notR_bl, ev_cmp, oB_some, ev_chn, ev_and, ev_or, ev_ite, ev_tup, ev_tupk, ev_lst, ev_isi, ev_intq, intqR_int, ev_idx, ev_sl, ev_rev, ev_call, ev_callV, callVR_fn, ev_blt, ev_mth, mthR_some, ev_att, attR_l, attR_r, noX_ok, ev_mk, mkQ_some, nonR_non, ev_nx0, evs'_nil, evs'_cons, evs_nil, evs_cons, evs_star, starR_some, embR_some, conds_nil, conds_one, isB_bl, asg_t, asg_f, asg_tp, tpR_2, tpR_2l, tpR_3, asg_sub, asg_fld, oS_some, asgs_nil, asgs_cons, tst_t, tst_f, getV_some, bind_ok, bind_exc, ofO_some, ofO2_some, chnR_t, chnR_f, itB_some, close_non, close_bl, close_int, close_str, close_tup, close_lst, close_obj, close_fn, close_edic, close_scr, emb_t, emb_f, bin_add, bin_sub, bin_addt, bin_addl, binV_add, binV_sub, cmp_lt, cmp_le, cmp_gt, cmp_ge, cmp_eqi, cmp_nei, seqOf_tup, seqOf_lst, listOf_lst, mkIt_tup, mkIt_lst, foTurn_nx, whTurn_nx, trn_nx, trn_rt, cpIf_t, cpIf_f, List.getElem?_cons_zero, List.getElem?_cons_succ, List.set_cons_zero, List.set_cons_succ, wipe_nil, wipe_cons, endR_rt, endR_nx, leave_non, leave_bl, leave_int, leave_str, leave_tup, leave_lst, leave_obj, lt_nil, lt_cons, vlt_int, vlt_bl, vlt_str, vlt_non, vlt_tup, vlt_lst, vlt_obj, lt_ints, anyOwn_ints, blt_gcd, blt_abs, blt_toInt, blt_toIntb, blt_min, blt_max, blt_lent, blt_lenl, blt_lens, blt_listt, blt_listl, List.map_cons, List.map_nil, List.replicate, List.cons_append, List.nil_append, Bool.and_true, Bool.and_self, decide_true, decide_false, Bool.not_true, Bool.not_false, isTy_ok (.cls 0) (v := .tup (l.map .int)) rfl, show isTyB (.cls 0) (.tup (l.map .int)) = false from rfl, are_entries_ok (d := d) ok1 hl h1 hs, fldR_own (get_last (O := O) (c := .ins 1 [none])) cls1 (show kForm.ats.lookup 1 = some (.slot 0) from rfl), h]
  rw [leave_len rfl rfl (by simp) ok2]
theorem mk_form {l : List Int} (hO : StOk O) (hl : l.length ≤ 41) (h1 : 1 ≤ l.length) (hs : ∀ x ∈ l, isShort (.int x) = true) : mkQ (Xc (d + 5)) 1 (some kForm) [.tup (l.map .int)] O = .ok (frm l) O := by
  rw [mkQ_some]
  have e := form_init_tup (d := d) hO hl h1 hs
  have m := made_ok (c := 1) (l := [Val.tup (l.map .int)]) hO (by rw [lt_cons, vlt_tup, lt_ints]; rfl)
  have m' : made O.length (O ++ [Cell.ins 1 [some (Val.tup (l.map .int))]]) = some (.obj 1 [Val.tup (l.map .int)], O) := m
  have e' : (Xc (d + 5)).call kForm.init (.own O.length :: [Val.tup (l.map .int)]) (O ++ [.ins 1 (List.replicate kForm.n none)]) = .ok .non (O ++ [.ins 1 [some (Val.tup (l.map .int))]]) := e
  rw [e', bind_ok, nonR_non, m', ofO2_some]
  rfl
theorem att_frm_own (l : List Int) : attOf pg O (frm l) 1 = some (.inl (.tup (l.map .int))) := Eq.trans rfl rfl
structure Dz (O0 : Store) (k n : Nat) (O : Store) : Prop where
  ex : ∃ a b c : Int, O = O0.set k (.lst true [.int a, .int b, .int c]) ∧ Sm 500 b ∧ 0 ≤ c ∧ c ≤ n
  k : k < O0.length
  ok : StOk O0
  n : n < 1000000
theorem Dz.get (h : Dz O0 k n O) : ∃ a b c : Int, O[k]? = some (.lst true [.int a, .int b, .int c]) ∧ Sm 500 b ∧ 0 ≤ c ∧ c ≤ n ∧ ∀ c, O.set k c = O0.set k c := by
  obtain ⟨a, b, c, e, h1, h2, h3⟩ := h.ex
  exact ⟨a, b, c, by rw [e]; exact List.getElem?_set_self h.k, h1, h2, h3, fun c => by rw [e, List.set_set]⟩
theorem Dz.st (h : Dz O0 k n O) : StOk O := by
  obtain ⟨a, b, c, e, _⟩ := h.ex
  rw [e]
  exact h.ok.set rfl
theorem Dz.len (h : Dz O0 k n O) : O.length = O0.length := by
  obtain ⟨a, b, c, e, _⟩ := h.ex
  rw [e]
  exact List.length_set ..
theorem Dz.mono {m : Nat} (h : Dz O0 k n O) (hm : n ≤ m) (h2 : m < 1000000) : Dz O0 k m O := by
  obtain ⟨a, b, c, e, h1, h3, h4⟩ := h.ex
  exact ⟨⟨a, b, c, e, h1, h3, by omega⟩, h.k, h.ok, h2⟩
theorem at30 (a b c : Val) : L2.atI [a, b, c] 0 = some a := Eq.trans rfl rfl
theorem at31 (a b c : Val) : L2.atI [a, b, c] 1 = some b := Eq.trans rfl rfl
theorem at32 (a b c : Val) : L2.atI [a, b, c] 2 = some c := Eq.trans rfl rfl
theorem fmod_nat {a : Int} {t : Nat} (ht : 0 < t) : ∃ r : Nat, r < t ∧ a.fmod (t : Int) = (r : Int) := by
  have h0 : 0 ≤ a.fmod (t : Int) := Int.fmod_nonneg_of_pos a (by omega)
  have h1 : a.fmod (t : Int) < (t : Int) := Int.fmod_lt_of_pos a (by omega)
  exact ⟨(a.fmod (t : Int)).toNat, by omega, by omega⟩
theorem sm_fmod {a : Int} {t m : Nat} (ht : 0 < t) (hm : t ≤ 2 ^ m) : Sm m (a.fmod (t : Int)) := by
  obtain ⟨r, h1, h2⟩ := fmod_nat (a := a) ht
  rw [h2]
  exact Sm.ofNat (by omega)
theorem law_roll_ok {t : Nat} (h : Dz O0 k n O) (hn : n + 1 < 1000000) (ht : 0 < t) (ht2 : t < 2 ^ 60) :
    ∃ (r : Nat) (O' : Store), r < t ∧ Dz O0 k (n + 1) O' ∧ callAt pg (d + 1) i__law_roll [.own k, .int t] O = .ok (.int r) O' := by
  obtain ⟨a, b, c, hk, hb, c0, c1, hset⟩ := h.get
  have hti : (t : Int) ≠ 0 := by omega
  have st : Sm 60 (t : Int) := Sm.ofNat ht2
  by_cases ha : 0 < a
  · obtain ⟨r, r1, r2⟩ := fmod_nat (a := a) ht
    have s0 : setV true (.own k) (.int 0) (.int (a.fdiv t)) O = some (O.set k (.lst true [.int (a.fdiv t), .int b, .int c])) := setV_own (i := 0) hk rfl (Nat.succ_pos _)
    have dz : Dz O0 k (n + 1) (O.set k (.lst true [.int (a.fdiv t), .int b, .int c])) := ⟨⟨_, _, _, hset _, hb, c0, by omega⟩, h.k, h.ok, hn⟩
    refine ⟨r, _, r1, dz, ?_⟩
    rw [call_run (F := f__law_roll) rfl rfl]
    unfold f__law_roll
    simp only [exs_nil, exs_cons, nxt_nx, nxt_rt, ex_asgQ, ex_ex, ex_ret, ex_ifs, ex_rse, ex_aug, augR_int, ex_augS, augSR_int, oF_some, ev_var, ev_glo, ev_fn, ev_non, ev_bl, ev_int, ev_str, ev_edic, ev_binQ, ev_neg, negR_int, ev_nt, notR_bl, ev_cmp, oB_some, ev_chn, ev_and, ev_or, ev_ite, ev_tup, ev_tupk, ev_lst, ev_isi, ev_intq, intqR_int, ev_idx, ev_sl, ev_rev, ev_call, ev_callV, callVR_fn, ev_blt, ev_mth, mthR_some, ev_att, attR_l, attR_r, noX_ok, ev_mk, mkQ_some, nonR_non, ev_nx0, evs'_nil, evs'_cons, evs_nil, evs_cons, evs_star, starR_some, embR_some, conds_nil, conds_one, isB_bl, asg_t, asg_f, asg_tp, tpR_2, tpR_2l, tpR_3, asg_sub, asg_fld, oS_some, asgs_nil, asgs_cons, tst_t, tst_f, getV_some, bind_ok, bind_exc, ofO_some, ofO2_some, chnR_t, chnR_f, itB_some, close_non, close_bl, close_int, close_str, close_tup, close_lst, close_obj, close_fn, close_edic, close_scr, emb_t, emb_f, bin_add, bin_sub, bin_addt, bin_addl, binV_add, binV_sub, cmp_lt, cmp_le, cmp_gt, cmp_ge, cmp_eqi, cmp_nei, seqOf_tup, seqOf_lst, listOf_lst, mkIt_tup, mkIt_lst, foTurn_nx, whTurn_nx, trn_nx, trn_rt, cpIf_t, cpIf_f, List.getElem?_cons_zero, List.getElem?_cons_succ, List.set_cons_zero, List.set_cons_succ, wipe_nil, wipe_cons, endR_rt, endR_nx, leave_non, leave_bl, leave_int, leave_str, leave_tup, leave_lst, leave_obj, lt_nil, lt_cons, vlt_int, vlt_bl, vlt_str, vlt_non, vlt_tup, vlt_lst, vlt_obj, lt_ints, anyOwn_ints, blt_gcd, blt_abs, blt_toInt, blt_toIntb, blt_min, blt_max, blt_lent, blt_lenl, blt_lens, blt_listt, blt_listl, List.map_cons, List.map_nil, List.replicate, List.cons_append, List.nil_append, Bool.and_true, Bool.and_self, decide_true, decide_false, Bool.not_true, Bool.not_false, idx_own hk, idxL_own hk, at30, ha, bin_mod a t hti, bin_div a t (dvOk_sm st (by omega) hti), s0, r2]
    exact leave_len rfl rfl (by rw [dz.len, h.len]) dz.st
  · have s0 : setV true (.own k) (.int 2) (.int (c + 1)) O = some (O.set k (.lst true [.int a, .int b, .int (c + 1)])) := setV_own (i := 2) hk rfl (by simp)
    have dz : Dz O0 k (n + 1) (O.set k (.lst true [.int a, .int b, .int (c + 1)])) := ⟨⟨_, _, _, hset _, hb, by omega, by omega⟩, h.k, h.ok, hn⟩
    have hk2 : (O.set k (.lst true [.int a, .int b, .int (c + 1)]))[k]? = some (.lst true [.int a, .int b, .int (c + 1)]) := List.getElem?_set_self (by rw [h.len]; exact h.k)
    have sc : Sm 30 (c + 1) := by unfold Sm; omega
    have sk (z : Int) (q : Nat) (e : z.natAbs < 2 ^ q) : Sm q z := e
    have s1 : Sm 62 ((b + 92821991 * (c + 1)).fmod 2305843009213691579) := sm_fmod (t := 2305843009213691579) (by decide) (by decide)
    generalize e1 : (b + 92821991 * (c + 1)).fmod 2305843009213691579 = x1 at s1
    have s2 : Sm 62 ((x1 * x1 + 101 * (c + 1)).fmod 2305843009213692227) := sm_fmod (t := 2305843009213692227) (by decide) (by decide)
    generalize e2 : (x1 * x1 + 101 * (c + 1)).fmod 2305843009213692227 = x2 at s2
    obtain ⟨r, r1, r2⟩ := fmod_nat (a := (x2 * 5915587 + x1).fdiv 65536) ht
    refine ⟨r, _, r1, dz, ?_⟩
    rw [call_run (F := f__law_roll) rfl rfl]
    unfold f__law_roll
    simp only [exs_nil, exs_cons, nxt_nx, nxt_rt, ex_asgQ, ex_ex, ex_ret, ex_ifs, ex_rse, ex_aug, augR_int, ex_augS, augSR_int, oF_some, ev_var, ev_glo, ev_fn, ev_non, ev_bl, ev_int, ev_str, ev_edic, ev_binQ, ev_neg, negR_int, ev_nt, notR_bl, ev_cmp, oB_some, ev_chn, ev_and, ev_or, ev_ite, ev_tup, ev_tupk, ev_lst, ev_isi, ev_intq, intqR_int, ev_idx, ev_sl, ev_rev, ev_call, ev_callV, callVR_fn, ev_blt, ev_mth, mthR_some, ev_att, attR_l, attR_r, noX_ok, ev_mk, mkQ_some, nonR_non, ev_nx0, evs'_nil, evs'_cons, evs_nil, evs_cons, evs_star, starR_some, embR_some, conds_nil, conds_one, isB_bl, asg_t, asg_f, asg_tp, tpR_2, tpR_2l, tpR_3, asg_sub, asg_fld, oS_some, asgs_nil, asgs_cons, tst_t, tst_f, getV_some, bind_ok, bind_exc, ofO_some, ofO2_some, chnR_t, chnR_f, itB_some, close_non, close_bl, close_int, close_str, close_tup, close_lst, close_obj, close_fn, close_edic, close_scr, emb_t, emb_f, bin_add, bin_sub, bin_addt, bin_addl, binV_add, binV_sub, cmp_lt, cmp_le, cmp_gt, cmp_ge, cmp_eqi, cmp_nei, seqOf_tup, seqOf_lst, listOf_lst, mkIt_tup, mkIt_lst, foTurn_nx, whTurn_nx, trn_nx, trn_rt, cpIf_t, cpIf_f, List.getElem?_cons_zero, List.getElem?_cons_succ, List.set_cons_zero, List.set_cons_succ, wipe_nil, wipe_cons, endR_rt, endR_nx, leave_non, leave_bl, leave_int, leave_str, leave_tup, leave_lst, leave_obj, lt_nil, lt_cons, vlt_int, vlt_bl, vlt_str, vlt_non, vlt_tup, vlt_lst, vlt_obj, lt_ints, anyOwn_ints, blt_gcd, blt_abs, blt_toInt, blt_toIntb, blt_min, blt_max, blt_lent, blt_lenl, blt_lens, blt_listt, blt_listl, List.map_cons, List.map_nil, List.replicate, List.cons_append, List.nil_append, Bool.and_true, Bool.and_self, decide_true, decide_false, Bool.not_true, Bool.not_false, idx_own hk, idxL_own hk, at30, at31, at32, ha, s0, idx_own hk2, idxL_own hk2, bin_mul 92821991 (c + 1) (mulOk_sm (sk 92821991 30 (by decide)) sc (by decide)), bin_mod (b + 92821991 * (c + 1)) 2305843009213691579 (by decide), e1, bin_mul x1 x1 (mulOk_sm s1 s1 (by decide)), bin_mul 101 (c + 1) (mulOk_sm (sk 101 30 (by decide)) sc (by decide)), bin_mod (x1 * x1 + 101 * (c + 1)) 2305843009213692227 (by decide), e2, bin_mul x2 5915587 (mulOk_sm s2 (sk 5915587 30 (by decide)) (by decide)), bin_div (x2 * 5915587 + x1) 65536 (dvOk_sm (sk 65536 30 (by decide)) (by decide) (by decide)), bin_mod ((x2 * 5915587 + x1).fdiv 65536) t hti, r2]
    exact leave_len rfl rfl (by rw [dz.len, h.len]) dz.st
theorem law_near_ok {t : Nat} (h : Dz O0 k n O) (hn : n + 1 < 1000000) (ht2 : t < 2 ^ 50) :
    ∃ (r : Int) (O' : Store), r.natAbs ≤ t ∧ Dz O0 k (n + 1) O' ∧ callAt pg (d + 2) i__law_near [.own k, .int t] O = .ok (.int r) O' := by
  obtain ⟨r, O', h1, h2, h3⟩ := law_roll_ok (d := d) (t := 2 * t + 1) h hn (by omega) (by omega)
  refine ⟨(r : Int) - t, O', by omega, h2, ?_⟩
  rw [call_run (F := f__law_near) rfl rfl]
  unfold f__law_near
  have e : (2 : Int) * (t : Int) + 1 = ((2 * t + 1 : Nat) : Int) := by omega
  simp only [exs_nil, exs_cons, nxt_nx, nxt_rt, ex_asgQ, ex_ex, ex_ret, ex_ifs, ex_rse, ex_aug, augR_int, ex_augS, augSR_int, oF_some, ev_var, ev_glo, ev_fn, ev_non, ev_bl, ev_int, ev_str, ev_edic, ev_binQ, ev_neg, negR_int, ev_nt, notR_bl, ev_cmp, oB_some, ev_chn, ev_and, ev_or, ev_ite, ev_tup, ev_tupk, ev_lst, ev_isi, ev_intq, intqR_int, ev_idx, ev_sl, ev_rev, ev_call, ev_callV, callVR_fn, ev_blt, ev_mth, mthR_some, ev_att, attR_l, attR_r, noX_ok, ev_mk, mkQ_some, nonR_non, ev_nx0, evs'_nil, evs'_cons, evs_nil, evs_cons, evs_star, starR_some, embR_some, conds_nil, conds_one, isB_bl, asg_t, asg_f, asg_tp, tpR_2, tpR_2l, tpR_3, asg_sub, asg_fld, oS_some, asgs_nil, asgs_cons, tst_t, tst_f, getV_some, bind_ok, bind_exc, ofO_some, ofO2_some, chnR_t, chnR_f, itB_some, close_non, close_bl, close_int, close_str, close_tup, close_lst, close_obj, close_fn, close_edic, close_scr, emb_t, emb_f, bin_add, bin_sub, bin_addt, bin_addl, binV_add, binV_sub, cmp_lt, cmp_le, cmp_gt, cmp_ge, cmp_eqi, cmp_nei, seqOf_tup, seqOf_lst, listOf_lst, mkIt_tup, mkIt_lst, foTurn_nx, whTurn_nx, trn_nx, trn_rt, cpIf_t, cpIf_f, List.getElem?_cons_zero, List.getElem?_cons_succ, List.set_cons_zero, List.set_cons_succ, wipe_nil, wipe_cons, endR_rt, endR_nx, leave_non, leave_bl, leave_int, leave_str, leave_tup, leave_lst, leave_obj, lt_nil, lt_cons, vlt_int, vlt_bl, vlt_str, vlt_non, vlt_tup, vlt_lst, vlt_obj, lt_ints, anyOwn_ints, blt_gcd, blt_abs, blt_toInt, blt_toIntb, blt_min, blt_max, blt_lent, blt_lenl, blt_lens, blt_listt, blt_listl, List.map_cons, List.map_nil, List.replicate, List.cons_append, List.nil_append, Bool.and_true, Bool.and_self, decide_true, decide_false, Bool.not_true, Bool.not_false, bin_mul 2 (t : Int) (mulOk_sm (n := 2) (m := 50) (by unfold Sm; decide) (Sm.ofNat ht2) (by decide)), e, h3]
  exact leave_len rfl rfl (by rw [h2.len, h.len]) h2.st
theorem law_pick_ok {l : List Val} (h : Dz O0 k n O) (hn : n + 1 < 1000000) (h0 : 0 < l.length) (h1 : l.length < 1000) (ho : ∀ v ∈ l, isOwn v = false ∧ ∀ m, v.lt m = true) :
    ∃ (v : Val) (O' : Store), v ∈ l ∧ Dz O0 k (n + 1) O' ∧ callAt pg (d + 2) i__law_pick [.own k, .lst l] O = .ok v O' := by
  obtain ⟨r, O', r1, h2, h3⟩ := law_roll_ok (d := d) (t := l.length) h hn h0 (by omega)
  have hv : l[r]? = some l[r] := List.getElem?_eq_getElem r1
  have hm : l[r] ∈ l := List.getElem_mem r1
  refine ⟨l[r], O', hm, h2, ?_⟩
  rw [call_run (F := f__law_pick) rfl rfl]
  unfold f__law_pick
  simp only [exs_nil, exs_cons, nxt_nx, nxt_rt, ex_asgQ, ex_ex, ex_ret, ex_ifs, ex_rse, ex_aug, augR_int, ex_augS, augSR_int, oF_some, ev_var, ev_glo, ev_fn, ev_non, ev_bl, ev_int, ev_str, ev_edic, ev_binQ, ev_neg, negR_int, ev_nt, notR_bl, ev_cmp, oB_some, ev_chn, ev_and, ev_or, ev_ite, ev_tup, ev_tupk, ev_lst, ev_isi, ev_intq, intqR_int, ev_idx, ev_sl, ev_rev, ev_call, ev_callV, callVR_fn, ev_blt, ev_mth, mthR_some, ev_att, attR_l, attR_r, noX_ok, ev_mk, mkQ_some, nonR_non, ev_nx0, evs'_nil, evs'_cons, evs_nil, evs_cons, evs_star, starR_some, embR_some, conds_nil, conds_one, isB_bl, asg_t, asg_f, asg_tp, tpR_2, tpR_2l, tpR_3, asg_sub, asg_fld, oS_some, asgs_nil, asgs_cons, tst_t, tst_f, getV_some, bind_ok, bind_exc, ofO_some, ofO2_some, chnR_t, chnR_f, itB_some, close_non, close_bl, close_int, close_str, close_tup, close_lst, close_obj, close_fn, close_edic, close_scr, emb_t, emb_f, bin_add, bin_sub, bin_addt, bin_addl, binV_add, binV_sub, cmp_lt, cmp_le, cmp_gt, cmp_ge, cmp_eqi, cmp_nei, seqOf_tup, seqOf_lst, listOf_lst, mkIt_tup, mkIt_lst, foTurn_nx, whTurn_nx, trn_nx, trn_rt, cpIf_t, cpIf_f, List.getElem?_cons_zero, List.getElem?_cons_succ, List.set_cons_zero, List.set_cons_succ, wipe_nil, wipe_cons, endR_rt, endR_nx, leave_non, leave_bl, leave_int, leave_str, leave_tup, leave_lst, leave_obj, lt_nil, lt_cons, vlt_int, vlt_bl, vlt_str, vlt_non, vlt_tup, vlt_lst, vlt_obj, lt_ints, anyOwn_ints, blt_gcd, blt_abs, blt_toInt, blt_toIntb, blt_min, blt_max, blt_lent, blt_lenl, blt_lens, blt_listt, blt_listl, List.map_cons, List.map_nil, List.replicate, List.cons_append, List.nil_append, Bool.and_true, Bool.and_self, decide_true, decide_false, Bool.not_true, Bool.not_false, h3, idx_lst, L2.atI_nat hv]
  exact leave_len (ho _ hm).1 ((ho _ hm).2 _) (by rw [h2.len, h.len]) h2.st
def n1 (l : List Int) : Nat := (l.map Int.natAbs).sum
theorem n1_mem {l : List Int} {x : Int} (h : x ∈ l) : x.natAbs ≤ n1 l := by
  induction l with
  | nil => cases h
  | cons y l ih =>
    show x.natAbs ≤ y.natAbs + n1 l
    rcases List.mem_cons.mp h with e | e
    · rw [e]; omega
    · have := ih e; omega
theorem n1_sm {l : List Int} {m : Nat} (h : n1 l < 2 ^ m) : SmL m l := fun x hx => Nat.lt_of_le_of_lt (n1_mem hx) h
theorem rng_small {w : Nat} (h : w < 1000) : rngOk (w : Int) = true := by
  unfold rngOk
  simp only [Bool.and_eq_true, decide_eq_true_eq]
  omega
theorem comp_dz {γ : Type} {X : Mn.Ctx} {elt : Ex} {t : Tg} {ρ0 : Mn.Env} {m : Nat} (φ : γ → Val) (P : γ → Prop) (c : Nat) (hm : m < 1000)
    (hturn : ∀ (i : Nat) (O : Store) (n' : Nat) (acc : List Val), i < m → acc.length < 16777216 → Dz O0 k n' O → n' + c < 1000000 → ∃ g O', P g ∧ Dz O0 k (n' + c) O' ∧ cpTurn X elt t .nil ρ0 (.int (0 + (i : Int))) acc O = .ok (φ g :: acc, true) O')
    (h : Dz O0 k n O) (hn : n + m * c < 1000000) :
    ∃ (vs : List γ) (O' : Store), vs.length = m ∧ (∀ v ∈ vs, P v) ∧ Dz O0 k (n + m * c) O' ∧ loopI (itGet (.rng 0 1 m)) (cpTurn X elt t .nil ρ0) TURNS 0 [] O = .ok (vs.map φ).reverse O' := by
  obtain ⟨a', O', e1, vs, e2, e3, e4, e5⟩ := loop_inv (get := itGet (.rng 0 1 m)) (turn := cpTurn X elt t .nil ρ0) ((List.range m).map fun (k : Nat) => Val.int (0 + (k : Int)))
    (fun i a O => ∃ vs : List γ, vs.length = i ∧ (∀ v ∈ vs, P v) ∧ a = (vs.map φ).reverse ∧ Dz O0 k (n + i * c) O)
    (fun i a O hi _ => rng_get 0 m i O) (fun i a O v hv ⟨vs, h1, h2, h3, h4⟩ => by
      rw [List.getElem?_map] at hv
      have hi : i < m := by
        by_cases hi : i < m
        · exact hi
        · rw [List.getElem?_eq_none (by rw [List.length_range]; omega)] at hv
          cases hv
      rw [List.getElem?_range hi] at hv
      cases hv
      have hb : n + i * c + c ≤ n + m * c := by
        have := Nat.mul_le_mul_right c (show i + 1 ≤ m from hi)
        rw [Nat.succ_mul] at this
        omega
      obtain ⟨g, O', g1, g2, g3⟩ := hturn i O (n + i * c) a hi (by rw [h3, List.length_reverse, List.length_map, h1]; omega) h4 (by omega)
      refine ⟨_, O', g3, vs ++ [g], by rw [List.length_append, h1]; rfl, fun v hv => ?_, by rw [h3]; simp, by rw [Nat.succ_mul, ← Nat.add_assoc]; exact g2⟩
      rcases List.mem_append.mp hv with e | e
      · exact h2 v e
      · rw [List.mem_singleton.mp e]; exact g1) TURNS 0 [] O (turns_big (by rw [List.length_map, List.length_range]; omega)) (Nat.zero_le _) ⟨[], rfl, fun _ h => (by cases h), rfl, by simpa using h⟩
  rw [List.length_map, List.length_range] at e2 e5
  exact ⟨vs, O', e2, e3, e5, by rw [e1, e4]⟩
theorem n1_le {l : List Int} {t : Nat} (h : ∀ v ∈ l, v.natAbs ≤ t) : n1 l ≤ l.length * t := by
  induction l with
  | nil => simp [n1]
  | cons x l ih =>
    have a := h x (List.mem_cons_self ..)
    have b := ih fun v hv => h v (List.mem_cons_of_mem _ hv)
    show x.natAbs + n1 l ≤ (l.length + 1) * t
    rw [Nat.succ_mul]
    omega
theorem small_form_ok {g t : Nat} (h : Dz O0 k n O) (hg : g < 100) (hn : n + 100 < 1000000) (ht : t < 2 ^ 50) :
    ∃ (l : List Int) (O' : Store), l.length = g + 1 ∧ n1 l ≤ (g + 1) * t ∧ Dz O0 k (n + 100) O' ∧ callAt pg (d + 3) i__law_small_form [.own k, .int g, .int t] O = .ok (.tup (l.map .int)) O' := by
  obtain ⟨vs, O', e1, e2, e3, e4⟩ := comp_dz (X := Xc (d + 2)) (elt := .call i__law_near (.cons (.var 0) (.cons (.var 2) .nil))) (t := .nm true 4) (ρ0 := [some (.own k), some (.int g), some (.int t), none, none]) (m := g + 1) Val.int (fun v => v.natAbs ≤ t) 1 (by omega) (fun i O n' acc hi ha hd hn' => by
    obtain ⟨r, O', r1, r2, r3⟩ := law_near_ok (d := d) hd hn' ht
    refine ⟨r, O', r1, r2, ?_⟩
    unfold cpTurn
    simp only [exs_nil, exs_cons, nxt_nx, nxt_rt, ex_asgQ, ex_ex, ex_ret, ex_ifs, ex_rse, ex_aug, augR_int, ex_augS, augSR_int, oF_some, ev_var, ev_glo, ev_fn, ev_non, ev_bl, ev_int, ev_str, ev_edic, ev_binQ, ev_neg, negR_int, ev_nt, notR_bl, ev_cmp, oB_some, ev_chn, ev_and, ev_or, ev_ite, ev_tup, ev_tupk, ev_lst, ev_isi, ev_intq, intqR_int, ev_idx, ev_sl, ev_rev, ev_call, ev_callV, callVR_fn, ev_blt, ev_mth, mthR_some, ev_att, attR_l, attR_r, noX_ok, ev_mk, mkQ_some, nonR_non, ev_nx0, evs'_nil, evs'_cons, evs_nil, evs_cons, evs_star, starR_some, embR_some, conds_nil, conds_one, isB_bl, asg_t, asg_f, asg_tp, tpR_2, tpR_2l, tpR_3, asg_sub, asg_fld, oS_some, asgs_nil, asgs_cons, tst_t, tst_f, getV_some, bind_ok, bind_exc, ofO_some, ofO2_some, chnR_t, chnR_f, itB_some, close_non, close_bl, close_int, close_str, close_tup, close_lst, close_obj, close_fn, close_edic, close_scr, emb_t, emb_f, bin_add, bin_sub, bin_addt, bin_addl, binV_add, binV_sub, cmp_lt, cmp_le, cmp_gt, cmp_ge, cmp_eqi, cmp_nei, seqOf_tup, seqOf_lst, listOf_lst, mkIt_tup, mkIt_lst, foTurn_nx, whTurn_nx, trn_nx, trn_rt, cpIf_t, cpIf_f, List.getElem?_cons_zero, List.getElem?_cons_succ, List.set_cons_zero, List.set_cons_succ, wipe_nil, wipe_cons, endR_rt, endR_nx, leave_non, leave_bl, leave_int, leave_str, leave_tup, leave_lst, leave_obj, lt_nil, lt_cons, vlt_int, vlt_bl, vlt_str, vlt_non, vlt_tup, vlt_lst, vlt_obj, lt_ints, anyOwn_ints, blt_gcd, blt_abs, blt_toInt, blt_toIntb, blt_min, blt_max, blt_lent, blt_lenl, blt_lens, blt_listt, blt_listl, List.map_cons, List.map_nil, List.replicate, List.cons_append, List.nil_append, Bool.and_true, Bool.and_self, decide_true, decide_false, Bool.not_true, Bool.not_false, r3, cpEnd_ok ha]) h (by omega)
  have dz := e3.mono (m := n + 100) (by omega) (by omega)
  refine ⟨vs, O', e1, e1 ▸ n1_le e2, dz, ?_⟩
  rw [call_run (F := f__law_small_form) rfl rfl]
  unfold f__law_small_form
  have en : (g : Int) + 1 = ((g + 1 : Nat) : Int) := by omega
  simp only [exs_nil, exs_cons, nxt_nx, nxt_rt, ex_asgQ, ex_ex, ex_ret, ex_ifs, ex_rse, ex_aug, augR_int, ex_augS, augSR_int, oF_some, ev_var, ev_glo, ev_fn, ev_non, ev_bl, ev_int, ev_str, ev_edic, ev_binQ, ev_neg, negR_int, ev_nt, notR_bl, ev_cmp, oB_some, ev_chn, ev_and, ev_or, ev_ite, ev_tup, ev_tupk, ev_lst, ev_isi, ev_intq, intqR_int, ev_idx, ev_sl, ev_rev, ev_call, ev_callV, callVR_fn, ev_blt, ev_mth, mthR_some, ev_att, attR_l, attR_r, noX_ok, ev_mk, mkQ_some, nonR_non, ev_nx0, evs'_nil, evs'_cons, evs_nil, evs_cons, evs_star, starR_some, embR_some, conds_nil, conds_one, isB_bl, asg_t, asg_f, asg_tp, tpR_2, tpR_2l, tpR_3, asg_sub, asg_fld, oS_some, asgs_nil, asgs_cons, tst_t, tst_f, getV_some, bind_ok, bind_exc, ofO_some, ofO2_some, chnR_t, chnR_f, itB_some, close_non, close_bl, close_int, close_str, close_tup, close_lst, close_obj, close_fn, close_edic, close_scr, emb_t, emb_f, bin_add, bin_sub, bin_addt, bin_addl, binV_add, binV_sub, cmp_lt, cmp_le, cmp_gt, cmp_ge, cmp_eqi, cmp_nei, seqOf_tup, seqOf_lst, listOf_lst, mkIt_tup, mkIt_lst, foTurn_nx, whTurn_nx, trn_nx, trn_rt, cpIf_t, cpIf_f, List.getElem?_cons_zero, List.getElem?_cons_succ, List.set_cons_zero, List.set_cons_succ, wipe_nil, wipe_cons, endR_rt, endR_nx, leave_non, leave_bl, leave_int, leave_str, leave_tup, leave_lst, leave_obj, lt_nil, lt_cons, vlt_int, vlt_bl, vlt_str, vlt_non, vlt_tup, vlt_lst, vlt_obj, lt_ints, anyOwn_ints, blt_gcd, blt_abs, blt_toInt, blt_toIntb, blt_min, blt_max, blt_lent, blt_lenl, blt_lens, blt_listt, blt_listl, List.map_cons, List.map_nil, List.replicate, List.cons_append, List.nil_append, Bool.and_true, Bool.and_self, decide_true, decide_false, Bool.not_true, Bool.not_false, en, ev_cmp1, mkIt_rng ((g + 1 : Nat) : Int) (rng_small (by omega)), Int.toNat_natCast, e4, List.reverse_reverse, newL_f (l := vs.map Val.int) (by rw [List.length_map]; omega) (anyOwn_ints _), blt_tupl _ (vs.map Val.int) O' (anyOwn_ints _), newT_ok (l := vs.map Val.int) (by rw [List.length_map]; omega)]
  exact leave_len rfl (lt_ints _ _) (by rw [dz.len, h.len]) dz.st
theorem pow12 {X : Mn.Ctx} : binR X false .pow (.int 10) (.int 12) O = .ok (.int 1000000000000) O := rfl
theorem pow16 {X : Mn.Ctx} : binR X false .pow (.int 10) (.int 16) O = .ok (.int 10000000000000000) O := rfl
theorem pow60 {X : Mn.Ctx} : binR X false .pow (.int 10) (.int 60) O = .ok (.int G60) O := rfl
theorem leave_keep {v : Val} {m : Nat} : leave m true v O = .ok v O := Eq.trans rfl rfl
theorem idx_scr {l : List Val} {i : Int} : idxV (.scr l) (.int i) O = L2.atI l i := Eq.trans rfl rfl
theorem dice_ok {s : List Int} {spot : Nat} (hO : StOk O) (hs : spot < 10) :
    ∃ x y : Int, Dz (O ++ [.lst true [.int x, .int y, .int 0]]) O.length 0 (O ++ [.lst true [.int x, .int y, .int 0]]) ∧ callAt pg (d + 1) i__law_dice [.scr (s.map .int), .int spot] O = .ok (.own O.length) (O ++ [.lst true [.int x, .int y, .int 0]]) := by
  have sk (z : Int) (q : Nat) (e : z.natAbs < 2 ^ q) : Sm q z := e
  have s1 : Sm 10 (spot : Int) := Sm.ofNat (by omega)
  have fin : ∀ (x : Int) (a b : Int), Sm 500 b → Dz (O ++ [.lst true [.int a, .int b, .int 0]]) O.length 0 (O ++ [.lst true [.int a, .int b, .int 0]]) := fun x a b hb => ⟨⟨a, b, 0, by simp, hb, Int.le_refl _, Int.le_refl _⟩, by rw [List.length_append]; exact Nat.lt_succ_self _, hO.push rfl, by decide⟩
  have m60 : mulOk G60 G60 = true := mulOk_sm (sk G60 210 (by decide)) (sk G60 210 (by decide)) (by decide)
  have big : ∀ x : Int, ∃ r : Int, Sm 62 r ∧ binR (Xc d) false .mod (.int (x.natAbs : Int)) (.int 1152921504606846697) O = .ok (.int r) O := fun x => ⟨_, sm_fmod (t := 1152921504606846697) (by decide) (by decide), bin_mod _ _ (by decide)⟩
  have go : ∀ x : Int, ((spot < s.length ∧ x = nth s spot) ∨ (¬ spot < s.length ∧ x = 89 * spot + 37)) → ∃ a b : Int, Sm 500 b ∧ callAt pg (d + 1) i__law_dice [.scr (s.map .int), .int spot] O = .ok (.own O.length) (O ++ [.lst true [.int a, .int b, .int 0]]) := fun x hx => by
    obtain ⟨r, r1, r2⟩ := big x
    have sr : ∀ z : Int, Sm 10 z → Sm 500 (r * 83 + 883 * (spot : Int) + 43 * z + 19) := fun z hz => by
      have q1 := ((r1.mul (sk 83 10 (by decide))).mono (m := 90) (by decide)).add (((sk 883 10 (by decide)).mul s1).mono (m := 90) (by decide))
      have q2 := (q1.add (((sk 43 10 (by decide)).mul hz).mono (m := 91) (by decide))).add (sk 19 92 (by decide))
      exact q2.mono (by decide)
    have k1 : binR (Xc d) false .mul (.int r) (.int 83) O = .ok (.int (r * 83)) O := bin_mul r 83 (mulOk_sm r1 (sk 83 10 (by decide)) (by decide))
    have k2 : binR (Xc d) false .mul (.int 883) (.int (spot : Int)) O = .ok (.int (883 * spot)) O := bin_mul 883 (spot : Int) (mulOk_sm (sk 883 10 (by decide)) s1 (by decide))
    have k3 : binR (Xc d) false .mul (.int G60) (.int G60) O = .ok (.int (G60 * G60)) O := bin_mul G60 G60 m60
    have k4 : ∀ y : Int, binR (Xc d) false .mod (.int y) (.int (G60 * G60)) O = .ok (.int (y.fmod (G60 * G60))) O := fun y => bin_mod y _ (by decide)
    have k5 : binR (Xc d) false .mul (.int 43) (.int 1) O = .ok (.int (43 * 1)) O := bin_mul 43 1 (by decide)
    have k6 : binR (Xc d) false .mul (.int 43) (.int 0) O = .ok (.int (43 * 0)) O := bin_mul 43 0 (by decide)
    have k7 : binR (Xc d) false .mul (.int 89) (.int (spot : Int)) O = .ok (.int (89 * spot)) O := bin_mul 89 (spot : Int) (mulOk_sm (sk 89 10 (by decide)) s1 (by decide))
    rcases hx with ⟨h1, e1⟩ | ⟨h1, e1⟩
    · have h2 : (spot : Int) < (s.length : Int) := by omega
      have e2 : L2.atI (s.map Val.int) (spot : Int) = some (.int x) := by rw [e1]; exact atI_ints h1
      by_cases hx0 : x < 0
      · refine ⟨((if (0 : Int) < (x.natAbs : Int) - 10000000000000000 then (x.natAbs : Int) - 10000000000000000 else 0).fmod (G60 * G60)), r * 83 + 883 * (spot : Int) + 43 * 1 + 19, sr 1 (sk 1 10 (by decide)), ?_⟩
        rw [call_run (F := f__law_dice) rfl rfl]
        unfold f__law_dice
        simp only [exs_nil, exs_cons, nxt_nx, nxt_rt, ex_asgQ, ex_ex, ex_ret, ex_ifs, ex_rse, ex_aug, augR_int, ex_augS, augSR_int, oF_some, ev_var, ev_glo, ev_fn, ev_non, ev_bl, ev_int, ev_str, ev_edic, ev_binQ, ev_neg, negR_int, ev_nt, notR_bl, ev_cmp, oB_some, ev_chn, ev_and, ev_or, ev_ite, ev_tup, ev_tupk, ev_lst, ev_isi, ev_intq, intqR_int, ev_idx, ev_sl, ev_rev, ev_call, ev_callV, callVR_fn, ev_blt, ev_mth, mthR_some, ev_att, attR_l, attR_r, noX_ok, ev_mk, mkQ_some, nonR_non, ev_nx0, evs'_nil, evs'_cons, evs_nil, evs_cons, evs_star, starR_some, embR_some, conds_nil, conds_one, isB_bl, asg_t, asg_f, asg_tp, tpR_2, tpR_2l, tpR_3, asg_sub, asg_fld, oS_some, asgs_nil, asgs_cons, tst_t, tst_f, getV_some, bind_ok, bind_exc, ofO_some, ofO2_some, chnR_t, chnR_f, itB_some, close_non, close_bl, close_int, close_str, close_tup, close_lst, close_obj, close_fn, close_edic, close_scr, emb_t, emb_f, bin_add, bin_sub, bin_addt, bin_addl, binV_add, binV_sub, cmp_lt, cmp_le, cmp_gt, cmp_ge, cmp_eqi, cmp_nei, seqOf_tup, seqOf_lst, listOf_lst, mkIt_tup, mkIt_lst, foTurn_nx, whTurn_nx, trn_nx, trn_rt, cpIf_t, cpIf_f, List.getElem?_cons_zero, List.getElem?_cons_succ, List.set_cons_zero, List.set_cons_succ, wipe_nil, wipe_cons, endR_rt, endR_nx, leave_non, leave_bl, leave_int, leave_str, leave_tup, leave_lst, leave_obj, lt_nil, lt_cons, vlt_int, vlt_bl, vlt_str, vlt_non, vlt_tup, vlt_lst, vlt_obj, lt_ints, anyOwn_ints, blt_gcd, blt_abs, blt_toInt, blt_toIntb, blt_min, blt_max, blt_lent, blt_lenl, blt_lens, blt_listt, blt_listl, List.map_cons, List.map_nil, List.replicate, List.cons_append, List.nil_append, Bool.and_true, Bool.and_self, decide_true, decide_false, Bool.not_true, Bool.not_false, List.length_map, h2, idx_scr, e2, pow16, pow60, k1, k2, k3, k4, k5, r2, hx0, newL3k, leave_keep]
      · refine ⟨((if (0 : Int) < (x.natAbs : Int) - 10000000000000000 then (x.natAbs : Int) - 10000000000000000 else 0).fmod (G60 * G60)), r * 83 + 883 * (spot : Int) + 43 * 0 + 19, sr 0 (sk 0 10 (by decide)), ?_⟩
        rw [call_run (F := f__law_dice) rfl rfl]
        unfold f__law_dice
        simp only [exs_nil, exs_cons, nxt_nx, nxt_rt, ex_asgQ, ex_ex, ex_ret, ex_ifs, ex_rse, ex_aug, augR_int, ex_augS, augSR_int, oF_some, ev_var, ev_glo, ev_fn, ev_non, ev_bl, ev_int, ev_str, ev_edic, ev_binQ, ev_neg, negR_int, ev_nt, notR_bl, ev_cmp, oB_some, ev_chn, ev_and, ev_or, ev_ite, ev_tup, ev_tupk, ev_lst, ev_isi, ev_intq, intqR_int, ev_idx, ev_sl, ev_rev, ev_call, ev_callV, callVR_fn, ev_blt, ev_mth, mthR_some, ev_att, attR_l, attR_r, noX_ok, ev_mk, mkQ_some, nonR_non, ev_nx0, evs'_nil, evs'_cons, evs_nil, evs_cons, evs_star, starR_some, embR_some, conds_nil, conds_one, isB_bl, asg_t, asg_f, asg_tp, tpR_2, tpR_2l, tpR_3, asg_sub, asg_fld, oS_some, asgs_nil, asgs_cons, tst_t, tst_f, getV_some, bind_ok, bind_exc, ofO_some, ofO2_some, chnR_t, chnR_f, itB_some, close_non, close_bl, close_int, close_str, close_tup, close_lst, close_obj, close_fn, close_edic, close_scr, emb_t, emb_f, bin_add, bin_sub, bin_addt, bin_addl, binV_add, binV_sub, cmp_lt, cmp_le, cmp_gt, cmp_ge, cmp_eqi, cmp_nei, seqOf_tup, seqOf_lst, listOf_lst, mkIt_tup, mkIt_lst, foTurn_nx, whTurn_nx, trn_nx, trn_rt, cpIf_t, cpIf_f, List.getElem?_cons_zero, List.getElem?_cons_succ, List.set_cons_zero, List.set_cons_succ, wipe_nil, wipe_cons, endR_rt, endR_nx, leave_non, leave_bl, leave_int, leave_str, leave_tup, leave_lst, leave_obj, lt_nil, lt_cons, vlt_int, vlt_bl, vlt_str, vlt_non, vlt_tup, vlt_lst, vlt_obj, lt_ints, anyOwn_ints, blt_gcd, blt_abs, blt_toInt, blt_toIntb, blt_min, blt_max, blt_lent, blt_lenl, blt_lens, blt_listt, blt_listl, List.map_cons, List.map_nil, List.replicate, List.cons_append, List.nil_append, Bool.and_true, Bool.and_self, decide_true, decide_false, Bool.not_true, Bool.not_false, List.length_map, h2, idx_scr, e2, pow16, pow60, k1, k2, k3, k4, k6, r2, hx0, newL3k, leave_keep]
    · have h2 : ¬ (spot : Int) < (s.length : Int) := by omega
      have k7' : binR (Xc d) false .mul (.int 89) (.int (spot : Int)) O = .ok (.int (x - 37)) O := by rw [k7, e1, Int.add_sub_cancel]
      have k8 : x - 37 + 37 = x := Int.sub_add_cancel ..
      by_cases hx0 : x < 0
      · refine ⟨((if (0 : Int) < (x.natAbs : Int) - 10000000000000000 then (x.natAbs : Int) - 10000000000000000 else 0).fmod (G60 * G60)), r * 83 + 883 * (spot : Int) + 43 * 1 + 19, sr 1 (sk 1 10 (by decide)), ?_⟩
        rw [call_run (F := f__law_dice) rfl rfl]
        unfold f__law_dice
        simp only [exs_nil, exs_cons, nxt_nx, nxt_rt, ex_asgQ, ex_ex, ex_ret, ex_ifs, ex_rse, ex_aug, augR_int, ex_augS, augSR_int, oF_some, ev_var, ev_glo, ev_fn, ev_non, ev_bl, ev_int, ev_str, ev_edic, ev_binQ, ev_neg, negR_int, ev_nt, notR_bl, ev_cmp, oB_some, ev_chn, ev_and, ev_or, ev_ite, ev_tup, ev_tupk, ev_lst, ev_isi, ev_intq, intqR_int, ev_idx, ev_sl, ev_rev, ev_call, ev_callV, callVR_fn, ev_blt, ev_mth, mthR_some, ev_att, attR_l, attR_r, noX_ok, ev_mk, mkQ_some, nonR_non, ev_nx0, evs'_nil, evs'_cons, evs_nil, evs_cons, evs_star, starR_some, embR_some, conds_nil, conds_one, isB_bl, asg_t, asg_f, asg_tp, tpR_2, tpR_2l, tpR_3, asg_sub, asg_fld, oS_some, asgs_nil, asgs_cons, tst_t, tst_f, getV_some, bind_ok, bind_exc, ofO_some, ofO2_some, chnR_t, chnR_f, itB_some, close_non, close_bl, close_int, close_str, close_tup, close_lst, close_obj, close_fn, close_edic, close_scr, emb_t, emb_f, bin_add, bin_sub, bin_addt, bin_addl, binV_add, binV_sub, cmp_lt, cmp_le, cmp_gt, cmp_ge, cmp_eqi, cmp_nei, seqOf_tup, seqOf_lst, listOf_lst, mkIt_tup, mkIt_lst, foTurn_nx, whTurn_nx, trn_nx, trn_rt, cpIf_t, cpIf_f, List.getElem?_cons_zero, List.getElem?_cons_succ, List.set_cons_zero, List.set_cons_succ, wipe_nil, wipe_cons, endR_rt, endR_nx, leave_non, leave_bl, leave_int, leave_str, leave_tup, leave_lst, leave_obj, lt_nil, lt_cons, vlt_int, vlt_bl, vlt_str, vlt_non, vlt_tup, vlt_lst, vlt_obj, lt_ints, anyOwn_ints, blt_gcd, blt_abs, blt_toInt, blt_toIntb, blt_min, blt_max, blt_lent, blt_lenl, blt_lens, blt_listt, blt_listl, List.map_cons, List.map_nil, List.replicate, List.cons_append, List.nil_append, Bool.and_true, Bool.and_self, decide_true, decide_false, Bool.not_true, Bool.not_false, List.length_map, h2, k7', k8, pow16, pow60, k1, k2, k3, k4, k5, r2, hx0, newL3k, leave_keep]
      · refine ⟨((if (0 : Int) < (x.natAbs : Int) - 10000000000000000 then (x.natAbs : Int) - 10000000000000000 else 0).fmod (G60 * G60)), r * 83 + 883 * (spot : Int) + 43 * 0 + 19, sr 0 (sk 0 10 (by decide)), ?_⟩
        rw [call_run (F := f__law_dice) rfl rfl]
        unfold f__law_dice
        simp only [exs_nil, exs_cons, nxt_nx, nxt_rt, ex_asgQ, ex_ex, ex_ret, ex_ifs, ex_rse, ex_aug, augR_int, ex_augS, augSR_int, oF_some, ev_var, ev_glo, ev_fn, ev_non, ev_bl, ev_int, ev_str, ev_edic, ev_binQ, ev_neg, negR_int, ev_nt, notR_bl, ev_cmp, oB_some, ev_chn, ev_and, ev_or, ev_ite, ev_tup, ev_tupk, ev_lst, ev_isi, ev_intq, intqR_int, ev_idx, ev_sl, ev_rev, ev_call, ev_callV, callVR_fn, ev_blt, ev_mth, mthR_some, ev_att, attR_l, attR_r, noX_ok, ev_mk, mkQ_some, nonR_non, ev_nx0, evs'_nil, evs'_cons, evs_nil, evs_cons, evs_star, starR_some, embR_some, conds_nil, conds_one, isB_bl, asg_t, asg_f, asg_tp, tpR_2, tpR_2l, tpR_3, asg_sub, asg_fld, oS_some, asgs_nil, asgs_cons, tst_t, tst_f, getV_some, bind_ok, bind_exc, ofO_some, ofO2_some, chnR_t, chnR_f, itB_some, close_non, close_bl, close_int, close_str, close_tup, close_lst, close_obj, close_fn, close_edic, close_scr, emb_t, emb_f, bin_add, bin_sub, bin_addt, bin_addl, binV_add, binV_sub, cmp_lt, cmp_le, cmp_gt, cmp_ge, cmp_eqi, cmp_nei, seqOf_tup, seqOf_lst, listOf_lst, mkIt_tup, mkIt_lst, foTurn_nx, whTurn_nx, trn_nx, trn_rt, cpIf_t, cpIf_f, List.getElem?_cons_zero, List.getElem?_cons_succ, List.set_cons_zero, List.set_cons_succ, wipe_nil, wipe_cons, endR_rt, endR_nx, leave_non, leave_bl, leave_int, leave_str, leave_tup, leave_lst, leave_obj, lt_nil, lt_cons, vlt_int, vlt_bl, vlt_str, vlt_non, vlt_tup, vlt_lst, vlt_obj, lt_ints, anyOwn_ints, blt_gcd, blt_abs, blt_toInt, blt_toIntb, blt_min, blt_max, blt_lent, blt_lenl, blt_lens, blt_listt, blt_listl, List.map_cons, List.map_nil, List.replicate, List.cons_append, List.nil_append, Bool.and_true, Bool.and_self, decide_true, decide_false, Bool.not_true, Bool.not_false, List.length_map, h2, k7', k8, pow16, pow60, k1, k2, k3, k4, k6, r2, hx0, newL3k, leave_keep]
  have : ∃ x : Int, (spot < s.length ∧ x = nth s spot) ∨ (¬ spot < s.length ∧ x = 89 * spot + 37) := by
    by_cases h : spot < s.length
    · exact ⟨_, .inl ⟨h, rfl⟩⟩
    · exact ⟨_, .inr ⟨h, rfl⟩⟩
  obtain ⟨x, hx⟩ := this
  obtain ⟨a, b, h1, h2⟩ := go x hx
  exact ⟨a, b, fin x a b h1, h2⟩
def DL (L : List (Int × Int × Int)) : Store := L.map fun e => .lst true [.int e.1, .int e.2.1, .int e.2.2]
theorem Dz.dl {L0 : List (Int × Int × Int)} (h : Dz (DL L0) k n O) : ∃ L, L.length = L0.length ∧ O = DL L := by
  obtain ⟨a, b, c, e, _⟩ := h.ex
  refine ⟨L0.set k (a, b, c), List.length_set .., ?_⟩
  rw [e]
  unfold DL
  rw [List.map_set]
theorem short_sm {x : Int} (h : Sm 62 x) : isShort (.int x) = true := by
  unfold Sm at h
  show (decide (-G60 < x) && decide (x < G60)) = true
  have e : G60 = 1000000000000000000000000000000000000000000000000000000000000 := rfl
  rw [decide_eq_true (show -G60 < x by rw [e]; omega), decide_eq_true (show x < G60 by rw [e]; omega)]
  rfl
theorem dl_ok : ∀ L : List (Int × Int × Int), StOk (DL L) := fun L => by
  have : ∀ (n : Nat) (L : List (Int × Int × Int)), cellsLt n (DL L) = true := fun n L => by
    induction L with
    | nil => rfl
    | cons e L ih =>
      show (Cell.lt n _ && cellsLt n (DL L)) = true
      rw [ih]; rfl
  exact this _ _
theorem dl_len (L : List (Int × Int × Int)) : (DL L).length = L.length := by unfold DL; rw [List.length_map]
end
end K73
end

section
set_option Elab.async false
set_option linter.all false
set_option maxRecDepth 100000
set_option maxHeartbeats 0
namespace K73
open Mn PySem
/-! ### statements, one by one -/
def hdS : Ss → St
  | .cons s _ => s
  | .nil => .bad
def tlS : Ss → Ss
  | .cons _ r => r
  | .nil => .nil
def takeS : Nat → Ss → Ss
  | 0, _ => .nil
  | n + 1, .cons s r => .cons s (takeS n r)
  | _ + 1, .nil => .nil
def dropS : Nat → Ss → Ss
  | 0, b => b
  | n + 1, .cons _ r => dropS n r
  | _ + 1, .nil => .nil
section
variable {X : Mn.Ctx} {ρ ρ1 : Mn.Env} {O O1 : Store}
theorem exs_take : ∀ (n : Nat) (b : Ss) {ρ ρ1 : Mn.Env} {O O1 : Store}, exs X (takeS n b) ρ O = .ok (.nx ρ1) O1 → exs X b ρ O = exs X (dropS n b) ρ1 O1
  | 0, b, ρ, ρ1, O, O1, h => by
    have h : (Res.ok (Fl.nx ρ) O : Res Fl) = .ok (.nx ρ1) O1 := h
    cases h
    rfl
  | n + 1, .nil, ρ, ρ1, O, O1, h => by
    have h : (Res.ok (Fl.nx ρ) O : Res Fl) = .ok (.nx ρ1) O1 := h
    cases h
    rfl
  | n + 1, .cons s r, ρ, ρ1, O, O1, h => by
    have e : ∀ r, exs X (.cons s r) ρ O = (ex X s ρ O).bind fun f O1 => match f with
      | .nx ρ1 => exs X r ρ1 O1
      | f => .ok f O1 := fun r => rfl
    have h : exs X (.cons s (takeS n r)) ρ O = .ok (.nx ρ1) O1 := h
    rw [e] at h
    show exs X (.cons s r) ρ O = exs X (dropS n r) ρ1 O1
    rw [e]
    cases hs : ex X s ρ O with
    | ok f O2 =>
      rw [hs] at h
      cases f with
      | nx ρ2 => exact exs_take n r h
      | bk ρ2 => cases (show (Res.ok (Fl.bk ρ2) O2 : Res Fl) = .ok (.nx ρ1) O1 from h)
      | ct ρ2 => cases (show (Res.ok (Fl.ct ρ2) O2 : Res Fl) = .ok (.nx ρ1) O1 from h)
      | rt v => cases (show (Res.ok (Fl.rt v) O2 : Res Fl) = .ok (.nx ρ1) O1 from h)
    | exc c p O2 => rw [hs] at h; cases (show (Res.exc c p O2 : Res Fl) = .ok (.nx ρ1) O1 from h)
    | bad => rw [hs] at h; cases (show (Res.bad : Res Fl) = .ok (.nx ρ1) O1 from h)
theorem one_nx {s : St} (h : ex X s ρ O = .ok (.nx ρ1) O1) : exs X (.cons s .nil) ρ O = .ok (.nx ρ1) O1 := by
  show (ex X s ρ O).bind _ = _
  rw [h]; rfl
theorem one_rt {s : St} {r : Ss} {v : Val} (h : ex X s ρ O = .ok (.rt v) O1) : exs X (.cons s r) ρ O = .ok (.rt v) O1 := by
  show (ex X s ρ O).bind _ = _
  rw [h]; rfl
theorem ex_pick {i g : Nat} {es : Exs} {vs : List Val} {v : Val} (he : evs' X es ρ O = .ok vs O) (hc : X.call g vs O = .ok v O1) (hv : close v O1 = some (v, O1)) : ex X (.asg (.nm false i) (.call g es)) ρ O = .ok (.nx (ρ.set i (some v))) O1 := by
  show ((evs' X es ρ O).bind fun vs O1 => X.call g vs O1).bind _ = _
  rw [he]
  show (X.call g vs O).bind _ = _
  rw [hc]
  show ((match close v O1 with | some (v', O1) => Res.ok (ρ.set i (some v')) O1 | none => .bad : Res Mn.Env)).bind _ = _
  rw [hv]; rfl
theorem ev_pick {g : Nat} {es : Exs} {vs : List Val} {v : Val} (he : evs' X es ρ O = .ok vs O) (hc : X.call g vs O = .ok v O1) : ev X (.call g es) ρ O = .ok v O1 := by
  show (evs' X es ρ O).bind _ = _
  rw [he]
  exact hc
end
theorem close_okV {O : Store} {v : Val} (h : okV v = true) : close v O = some (v, O) := by cases v <;> first | rfl | cases h
theorem leave_take {O' O1 : Store} {n : Nat} {v : Val} (h : isOwn v = false) (hv : v.lt n = true) (ht : O1.take n = O') (hl : O'.length = n) (hO : StOk O') : leave n false v O1 = .ok v O' := by
  subst hl
  exact leave_pure h hv ht hO
/-- one to five dice -/
theorem shapes {P : List (Int × Int × Int) → Prop} (h1 : ∀ a, P [a]) (h2 : ∀ a b, P [a, b]) (h3 : ∀ a b c, P [a, b, c]) (h4 : ∀ a b c d, P [a, b, c, d]) (h5 : ∀ a b c d e, P [a, b, c, d, e]) : ∀ L : List (Int × Int × Int), 1 ≤ L.length → L.length ≤ 5 → P L
  | [a], _, _ => h1 a
  | [a, b], _, _ => h2 a b
  | [a, b, c], _, _ => h3 a b c
  | [a, b, c, d], _, _ => h4 a b c d
  | [a, b, c, d, e], _, _ => h5 a b c d e
  | [], h, _ => by simp at h
  | a :: b :: c :: d :: e :: f :: r, _, h => by simp at h
/-- forms of degree 0 to 4 -/
theorem rows5 {P : List Int → Prop} (h1 : ∀ a, P [a]) (h2 : ∀ a b, P [a, b]) (h3 : ∀ a b c, P [a, b, c]) (h4 : ∀ a b c d, P [a, b, c, d]) (h5 : ∀ a b c d e, P [a, b, c, d, e]) : ∀ L : List Int, 1 ≤ L.length → L.length ≤ 5 → P L
  | [a], _, _ => h1 a
  | [a, b], _, _ => h2 a b
  | [a, b, c], _, _ => h3 a b c
  | [a, b, c, d], _, _ => h4 a b c d
  | [a, b, c, d, e], _, _ => h5 a b c d e
  | [], h, _ => by simp at h
  | a :: b :: c :: d :: e :: f :: r, _, h => by simp at h
/-! ### forms_right -/
abbrev FF : Ss := f__law_forms_right.body
def S (s : String) : Val := .str (PySem.Str.ofString s)
def nones (f : Val) : List Val := [.non, .int 3, .tup [.int 1, .int 2], S "form 1 2", .lst [f], .edic]
def manys : List Val := [.non, .int (-1), .int 51, .bl true, S "2", .tup [.int 2], .int (10 ^ 60)]
def odds : List Val := [.non, .int 5, .lst [.tup [.int 1, .int 0]], .tup [.tup [.int 0, .int 0]], .tup [.tup [.int 2, .int 4]], .tup [.tup [.int (-1), .int 2]], .tup [.tup [.int 1, .int 0], .tup [.int 1, .int 0]], .tup [.tup [.int 1, .int 0, .int 0]],
  .tup [.tup [.bl true, .int 0]], .tup [.non], S "0", .tup [.int 1, .int 0]]
def wrongs (m : Nat) : List Val := odds ++ [.tup [.tup [.int 1, .int (10 ^ 60)]], .tup ((List.range m).map fun i => .tup [.int 1, .int (i : Nat)])]
def RF : Val := .tup [S "refused", S "form"]
def RP : Val := .tup [S "refused", S "point"]
def RO : Val := .tup [S "refused", S "operation"]
def LN : Val := .tup [S "let", .non]
def rp (v : Val) : Val := match reprV v [] with
  | some s => .tup [S "refused", .str s]
  | none => .non
abbrev tl (O : Store) (l : List Val) : Store := O ++ [.lst true l]
abbrev rho (k : Nat) (f o t m n w : Option Val) : Mn.Env := [some (.own k), f, o, t, m, n, w, none, none]
theorem seg1 (k : Nat) (f o : Option Val) (m w fv : Val) : ∀ L : List (Int × Int × Int), 1 ≤ L.length → L.length ≤ 5 → ∀ v ∈ nones fv, exs (Xc 29) (takeS 5 (dropS 4 FF)) (rho k f o none (some m) (some v) (some w)) (DL L) = .ok (.nx (rho k f o (some (.own L.length)) (some m) (some v) (some w))) (tl (DL L) [RF, RF, RF, RF]) := by
  have go : ∀ v ∈ nones fv, v = .non ∨ v = .int 3 ∨ v = .tup [.int 1, .int 2] ∨ v = S "form 1 2" ∨ v = .lst [fv] ∨ v = .edic := fun v hv => by
    unfold nones at hv
    simpa only [List.mem_cons, List.not_mem_nil, or_false] using hv
  refine shapes ?_ ?_ ?_ ?_ ?_ <;> intros <;> rename_i v hv <;> rcases go v hv with e | e | e | e | e | e <;> subst e <;> kernel_rfl
theorem many_cases {v : Val} (h : v ∈ manys) : v = .non ∨ v = .int (-1) ∨ v = .int 51 ∨ v = .bl true ∨ v = S "2" ∨ v = .tup [.int 2] ∨ v = .int (10 ^ 60) := by
  unfold manys at h
  simpa only [List.mem_cons, List.not_mem_nil, or_false] using h
theorem seg2 (k : Nat) (o : Option Val) (n w : Val) (l : List Int) : ∀ L : List (Int × Int × Int), 1 ≤ L.length → L.length ≤ 5 → ∀ v ∈ manys, exs (Xc 29) (takeS 2 (dropS 9 FF)) (rho k (some (frm l)) o (some (.own L.length)) (some v) (some n) (some w)) (tl (DL L) [RF, RF, RF, RF]) =
    .ok (.nx (rho k (some (frm l)) o (some (.own (L.length + 1))) (some v) (some n) (some w))) (tl (tl (DL L) [RF, RF, RF, RF]) [rp v, rp v]) := by
  refine shapes ?_ ?_ ?_ ?_ ?_ <;> intros <;> rename_i v hv <;> rcases many_cases hv with e | e | e | e | e | e | e <;> subst e <;> kernel_rfl
theorem rp_form {v : Val} (h : v ∈ manys) : ∃ t, rp v = .tup [S "refused", .str t] := by
  have hs : (reprV v []).isSome = true := by rcases many_cases h with e | e | e | e | e | e | e <;> subst e <;> kernel_rfl
  obtain ⟨t, ht⟩ := Option.isSome_iff_exists.mp hs
  exact ⟨t, by unfold rp; rw [ht]⟩
theorem wrong_cases {m : Nat} {v : Val} (h : v ∈ wrongs m) : v = .non ∨ v = .int 5 ∨ v = .lst [.tup [.int 1, .int 0]] ∨ v = .tup [.tup [.int 0, .int 0]] ∨ v = .tup [.tup [.int 2, .int 4]] ∨ v = .tup [.tup [.int (-1), .int 2]] ∨ v = .tup [.tup [.int 1, .int 0], .tup [.int 1, .int 0]] ∨ v = .tup [.tup [.int 1, .int 0, .int 0]] ∨
    v = .tup [.tup [.bl true, .int 0]] ∨ v = .tup [.non] ∨ v = S "0" ∨ v = .tup [.int 1, .int 0] ∨ v = .tup [.tup [.int 1, .int (10 ^ 60)]] ∨ v = .tup ((List.range m).map fun i => .tup [.int 1, .int (i : Nat)]) := by
  unfold wrongs odds at h
  simpa only [List.mem_append, List.mem_cons, List.not_mem_nil, or_false, or_assoc] using h
theorem seg3 (k : Nat) (o : Option Val) (n m : Val) (t : PySem.Str) : ∀ L : List (Int × Int × Int), 1 ≤ L.length → L.length ≤ 5 → ∀ l : List Int, 1 ≤ l.length → l.length ≤ 5 → ∀ v ∈ wrongs (l.length + 1),
    exs (Xc 29) (takeS 1 (dropS 11 FF)) (rho k (some (frm l)) o (some (.own (L.length + 1))) (some m) (some n) (some v)) (tl (tl (DL L) [RF, RF, RF, RF]) [.tup [S "refused", .str t], .tup [S "refused", .str t]]) =
    .ok (.nx (rho k (some (frm l)) o (some (.own (L.length + 1))) (some m) (some n) (some v))) (tl (tl (DL L) [RF, RF, RF, RF]) [.tup [S "refused", .str t], .tup [S "refused", .str t], RP]) := by
  refine shapes ?_ ?_ ?_ ?_ ?_ <;> intros <;> rename_i l h1 h2 v hv <;> revert v <;> revert h1 h2 <;> revert l <;> refine rows5 ?_ ?_ ?_ ?_ ?_ <;> intros <;> rename_i v hv <;>
    rcases wrong_cases hv with e | e | e | e | e | e | e | e | e | e | e | e | e | e <;> subst e <;> kernel_rfl
theorem seg4 (ρ : Mn.Env) : ∀ L : List (Int × Int × Int), 1 ≤ L.length → L.length ≤ 5 → ∀ (k : Nat) (f o n w : Option Val), ∀ v ∈ manys, exs (Xc 29) (dropS 12 FF) (rho k f o (some (.own (L.length + 1))) (some v) n w) (tl (tl (DL L) [RF, RF, RF, RF]) [rp v, rp v, RP]) =
    .ok (.rt (.bl true)) (tl (tl (DL L) [RF, RF, RF, RF]) [rp v, rp v, RP]) := by
  refine shapes ?_ ?_ ?_ ?_ ?_ <;> intros <;> rename_i v hv <;> rcases many_cases hv with e | e | e | e | e | e | e <;> subst e <;> kernel_rfl
/-! the lists that are picked from -/
def esOf : St → Exs
  | .asg _ (.call _ es) => es
  | _ => .nil
theorem args1 (k : Nat) (l : List Int) (a b c d e : Option Val) (O : Store) : evs' (Xc 29) (esOf (hdS FF)) [some (.own k), some (frm l), a, b, c, d, e, none, none] O = .ok [.own k, .lst (nones (frm l))] O := by kernel_rfl
theorem args2 (k : Nat) (a b c d e f : Option Val) (O : Store) : evs' (Xc 29) (esOf (hdS (tlS FF))) [some (.own k), f, a, b, c, d, e, none, none] O = .ok [.own k, .lst manys] O := by kernel_rfl
theorem odd3 (a b c d e f g : Option Val) (O : Store) : ex (Xc 29) (hdS (tlS (tlS FF))) [a, b, g, c, d, e, f, none, none] O = .ok (.nx [a, b, some (.lst odds), c, d, e, f, none, none]) O := by kernel_rfl
theorem args4 (k : Nat) (a b c d : Option Val) : ∀ L : List (Int × Int × Int), 1 ≤ L.length → L.length ≤ 5 → ∀ l : List Int, 1 ≤ l.length → l.length ≤ 5 → evs' (Xc 29) (esOf (hdS (tlS (tlS (tlS FF))))) [some (.own k), some (frm l), some (.lst odds), a, b, c, d, none, none] (DL L) = .ok [.own k, .lst (wrongs (l.length + 1))] (DL L) := by
  refine shapes ?_ ?_ ?_ ?_ ?_ <;> intros <;> rename_i l h1 h2 <;> revert h1 h2 <;> revert l <;> refine rows5 ?_ ?_ ?_ ?_ ?_ <;> intros <;> kernel_rfl
end K73
end

section
set_option Elab.async false
set_option linter.all false
set_option maxRecDepth 100000
set_option maxHeartbeats 0
namespace K73
open Mn PySem
def two (a b : Int) : Val := .tup [.int a, .int b]
def fine : Val := .tup [two 1 2, two 1 0]
def RB : Val := .tup [S "refused", .tup [S "bottom", .int 2]]
def fives (z : Int) : Val := .lst [.int z, .int 0, .int 0, .int 0, .int 0]
/-- what the small calls say at a store -/
structure Fine (O : Store) : Prop where
  st : StOk O
  f1 : callAt pg 27 i_is_ratio_in [two 1 2] O = .ok (.bl true) O
  f2 : callAt pg 27 i_is_point [two 1 0] O = .ok (.bl true) O
  f3 : callAt pg 27 i_power_entries [two 1 0, .int 4] O = .ok (fives 1) O
  f4 : callAt pg 28 i_require_from [.int 4, .int 0, .int 40] O = .ok .non O
  f5 : callAt pg 28 i_shared_of [.lst [.int 2, .int 50, .int 0, .int 0, .int 0, .int 0]] O = .ok (.int 2) O
  f6 : callAt pg 28 i_shared_of [.lst [.int 2, .int 49, .int 0, .int 0, .int 0, .int 0]] O = .ok (.int 1) O
  f7 : callAt pg 28 i_form_of [.tup [.int 25, .int 0, .int 0, .int 0, .int 0]] O = .ok (.obj 1 [.tup [.int 25, .int 0, .int 0, .int 0, .int 0]]) O
section
variable {O : Store} {n : Nat}
theorem cells (z : Val) : okV fine = true := rfl
theorem are_terms (F : Fine O) (hn : n ≤ 50) : callAt pg 28 i_are_sum_terms [.tup (List.replicate n fine)] O = .ok (.bl true) O := by
  have c1 := comp_all (O := O) (X := Xc 27) (elt := .and (.isi .tuple (.var 2)) (.cmp .eq (.blt .len false (.cons (.var 2) .nil)) (.glo 6))) (t := .nm true 2) (cs := .nil) (ρ0 := [some (.tup (List.replicate n fine)), none, none, none, none]) (get := itGet (.seq (.tup (List.replicate n fine)))) (R := List.replicate n fine) (fun v => v) (fun _ => .bl true) (by rw [List.length_replicate]; omega) (fun i hi => by rw [List.map_id']; exact get_tup _ i) fun r hr acc ha => by
    rw [(List.mem_replicate.mp hr).2]
    unfold cpTurn fine two
    simp only [exs_nil, exs_cons, nxt_nx, nxt_rt, ex_asgQ, ex_ex, ex_ret, ex_ifs, ex_rse, ex_aug, augR_int, ex_augS, augSR_int, oF_some, ev_var, ev_glo, ev_fn, ev_non, ev_bl, ev_int, ev_str, ev_edic, ev_binQ, ev_neg, negR_int, ev_nt, notR_bl, ev_cmp, oB_some, ev_chn, ev_and, ev_or, ev_ite, ev_tup, ev_tupk, ev_lst, ev_isi, ev_intq, intqR_int, ev_idx, ev_sl, ev_rev, ev_call, ev_callV, callVR_fn, ev_blt, ev_mth, mthR_some, ev_att, attR_l, attR_r, noX_ok, ev_mk, mkQ_some, nonR_non, ev_nx0, evs'_nil, evs'_cons, evs_nil, evs_cons, evs_star, starR_some, embR_some, conds_nil, conds_one, isB_bl, asg_t, asg_f, asg_tp, tpR_2, tpR_2l, tpR_3, asg_sub, asg_fld, oS_some, asgs_nil, asgs_cons, tst_t, tst_f, getV_some, bind_ok, bind_exc, ofO_some, ofO2_some, chnR_t, chnR_f, itB_some, close_non, close_bl, close_int, close_str, close_tup, close_lst, close_obj, close_fn, close_edic, close_scr, emb_t, emb_f, bin_add, bin_sub, bin_addt, bin_addl, binV_add, binV_sub, cmp_lt, cmp_le, cmp_gt, cmp_ge, cmp_eqi, cmp_nei, seqOf_tup, seqOf_lst, listOf_lst, mkIt_tup, mkIt_lst, foTurn_nx, whTurn_nx, trn_nx, trn_rt, cpIf_t, cpIf_f, List.getElem?_cons_zero, List.getElem?_cons_succ, List.set_cons_zero, List.set_cons_succ, wipe_nil, wipe_cons, endR_rt, endR_nx, leave_non, leave_bl, leave_int, leave_str, leave_tup, leave_lst, leave_obj, lt_nil, lt_cons, vlt_int, vlt_bl, vlt_str, vlt_non, vlt_tup, vlt_lst, vlt_obj, lt_ints, anyOwn_ints, blt_gcd, blt_abs, blt_toInt, blt_toIntb, blt_min, blt_max, blt_lent, blt_lenl, blt_lens, blt_listt, blt_listl, List.map_cons, List.map_nil, List.replicate, List.cons_append, List.nil_append, Bool.and_true, Bool.and_self, decide_true, decide_false, Bool.not_true, Bool.not_false, isTy_ok .tuple (v := .tup [.tup [.int 1, .int 2], .tup [.int 1, .int 0]]) rfl, show isTyB .tuple (.tup [.tup [.int 1, .int 2], .tup [.int 1, .int 0]]) = true from rfl, show pg.cons[6]? = some (Val.int 2) from rfl, List.length_cons, List.length_nil, cpEnd_ok ha]
    rfl
  have c2 := comp_all (O := O) (X := Xc 27) (elt := .and (.call i_is_ratio_in (.cons (.var 3) .nil)) (.call i_is_point (.cons (.var 4) .nil))) (t := .tp (.cons (.nm true 3) (.cons (.nm true 4) .nil))) (cs := .nil) (ρ0 := [some (.tup (List.replicate n fine)), none, none, none, none]) (get := itGet (.seq (.tup (List.replicate n fine)))) (R := List.replicate n fine) (fun v => v) (fun _ => .bl true) (by rw [List.length_replicate]; omega) (fun i hi => by rw [List.map_id']; exact get_tup _ i) fun r hr acc ha => by
    rw [(List.mem_replicate.mp hr).2]
    unfold cpTurn fine
    simp only [exs_nil, exs_cons, nxt_nx, nxt_rt, ex_asgQ, ex_ex, ex_ret, ex_ifs, ex_rse, ex_aug, augR_int, ex_augS, augSR_int, oF_some, ev_var, ev_glo, ev_fn, ev_non, ev_bl, ev_int, ev_str, ev_edic, ev_binQ, ev_neg, negR_int, ev_nt, notR_bl, ev_cmp, oB_some, ev_chn, ev_and, ev_or, ev_ite, ev_tup, ev_tupk, ev_lst, ev_isi, ev_intq, intqR_int, ev_idx, ev_sl, ev_rev, ev_call, ev_callV, callVR_fn, ev_blt, ev_mth, mthR_some, ev_att, attR_l, attR_r, noX_ok, ev_mk, mkQ_some, nonR_non, ev_nx0, evs'_nil, evs'_cons, evs_nil, evs_cons, evs_star, starR_some, embR_some, conds_nil, conds_one, isB_bl, asg_t, asg_f, asg_tp, tpR_2, tpR_2l, tpR_3, asg_sub, asg_fld, oS_some, asgs_nil, asgs_cons, tst_t, tst_f, getV_some, bind_ok, bind_exc, ofO_some, ofO2_some, chnR_t, chnR_f, itB_some, close_non, close_bl, close_int, close_str, close_tup, close_lst, close_obj, close_fn, close_edic, close_scr, emb_t, emb_f, bin_add, bin_sub, bin_addt, bin_addl, binV_add, binV_sub, cmp_lt, cmp_le, cmp_gt, cmp_ge, cmp_eqi, cmp_nei, seqOf_tup, seqOf_lst, listOf_lst, mkIt_tup, mkIt_lst, foTurn_nx, whTurn_nx, trn_nx, trn_rt, cpIf_t, cpIf_f, List.getElem?_cons_zero, List.getElem?_cons_succ, List.set_cons_zero, List.set_cons_succ, wipe_nil, wipe_cons, endR_rt, endR_nx, leave_non, leave_bl, leave_int, leave_str, leave_tup, leave_lst, leave_obj, lt_nil, lt_cons, vlt_int, vlt_bl, vlt_str, vlt_non, vlt_tup, vlt_lst, vlt_obj, lt_ints, anyOwn_ints, blt_gcd, blt_abs, blt_toInt, blt_toIntb, blt_min, blt_max, blt_lent, blt_lenl, blt_lens, blt_listt, blt_listl, List.map_cons, List.map_nil, List.replicate, List.cons_append, List.nil_append, Bool.and_true, Bool.and_self, decide_true, decide_false, Bool.not_true, Bool.not_false, F.f1, F.f2, cpEnd_ok ha]
  have e : (List.replicate n fine).map (fun _ => Val.bl true) = (List.replicate n fine).map fun v => Val.bl ((fun _ => true) v) := rfl
  rw [e] at c1 c2
  rw [call_run (F := f_are_sum_terms) rfl rfl]
  unfold f_are_sum_terms
  have hz : (List.replicate n fine).length ≤ 16777216 := by rw [List.length_replicate]; omega
  have hl : decide ((50 : Int) < ((List.replicate n fine).length : Int)) = false := decide_eq_false (by rw [List.length_replicate]; omega)
  generalize List.replicate n fine = z at c1 c2 hz hl
  have b1 : bltV .all false [.lst (z.map fun v => Val.bl true)] O = some (.bl true, O) := by
    have q := blt_all false (fun _ => true) z O
    rw [show z.all (fun _ => true) = true by simp] at q
    exact q
  simp only [exs_nil, exs_cons, nxt_nx, nxt_rt, ex_asgQ, ex_ex, ex_ret, ex_ifs, ex_rse, ex_aug, augR_int, ex_augS, augSR_int, oF_some, ev_var, ev_glo, ev_fn, ev_non, ev_bl, ev_int, ev_str, ev_edic, ev_binQ, ev_neg, negR_int, ev_nt, notR_bl, ev_cmp, oB_some, ev_chn, ev_and, ev_or, ev_ite, ev_tup, ev_tupk, ev_lst, ev_isi, ev_intq, intqR_int, ev_idx, ev_sl, ev_rev, ev_call, ev_callV, callVR_fn, ev_blt, ev_mth, mthR_some, ev_att, attR_l, attR_r, noX_ok, ev_mk, mkQ_some, nonR_non, ev_nx0, evs'_nil, evs'_cons, evs_nil, evs_cons, evs_star, starR_some, embR_some, conds_nil, conds_one, isB_bl, asg_t, asg_f, asg_tp, tpR_2, tpR_2l, tpR_3, asg_sub, asg_fld, oS_some, asgs_nil, asgs_cons, tst_t, tst_f, getV_some, bind_ok, bind_exc, ofO_some, ofO2_some, chnR_t, chnR_f, itB_some, close_non, close_bl, close_int, close_str, close_tup, close_lst, close_obj, close_fn, close_edic, close_scr, emb_t, emb_f, bin_add, bin_sub, bin_addt, bin_addl, binV_add, binV_sub, cmp_lt, cmp_le, cmp_gt, cmp_ge, cmp_eqi, cmp_nei, seqOf_tup, seqOf_lst, listOf_lst, mkIt_tup, mkIt_lst, foTurn_nx, whTurn_nx, trn_nx, trn_rt, cpIf_t, cpIf_f, List.getElem?_cons_zero, List.getElem?_cons_succ, List.set_cons_zero, List.set_cons_succ, wipe_nil, wipe_cons, endR_rt, endR_nx, leave_non, leave_bl, leave_int, leave_str, leave_tup, leave_lst, leave_obj, lt_nil, lt_cons, vlt_int, vlt_bl, vlt_str, vlt_non, vlt_tup, vlt_lst, vlt_obj, lt_ints, anyOwn_ints, blt_gcd, blt_abs, blt_toInt, blt_toIntb, blt_min, blt_max, blt_lent, blt_lenl, blt_lens, blt_listt, blt_listl, List.map_cons, List.map_nil, List.replicate, List.cons_append, List.nil_append, Bool.and_true, Bool.and_self, decide_true, decide_false, Bool.not_true, Bool.not_false, isTy_ok .tuple (v := .tup z) rfl, show isTyB .tuple (.tup z) = true from rfl, show pg.cons[3]? = some (Val.int 50) from rfl, hl, ev_cmp1, c1, c2, List.reverse_reverse, newL_f (by rw [List.length_map]; exact hz) (anyOwn_bl (fun _ => true) z), b1, F.st]
def lop1 : Ss := .cons (.asg (.nm false 2) (.blt .lcm false (.cons (.var 2) (.cons (.idx (.var 4) (.int 1)) .nil)))) .nil
def lop2 : Ss := .cons (.asg (.nm false 8) (.bin false .mul (.var 6) (.bin false .fdiv (.var 2) (.var 7))))
    (.cons (.asg (.nm false 3) (.cmp1 false (.bin false .add (.var 10) (.bin false .mul (.var 8) (.var 11))) (.tp (.cons (.nm true 10) (.cons (.nm true 11) .nil))) .zip (.cons (.var 3) (.cons (.call i_power_entries (.cons (.var 5) (.cons (.var 0) .nil))) .nil)) .nil [9, 10, 11])) .nil)
theorem zipc (s : Int) (a b c d e f g h i j k : Option Val) : loopI (itGet (.zip (fives s) (fives 1))) (cpTurn (Xc 27) (.bin false .add (.var 10) (.bin false .mul (.var 8) (.var 11))) (.tp (.cons (.nm true 10) (.cons (.nm true 11) .nil))) .nil [a, b, c, d, e, f, g, h, some (.int 1), i, j, k]) TURNS 0 [] O =
    .ok [.int 0, .int 0, .int 0, .int 0, .int (s + 1)] O := by kernel_rfl
theorem summed (F : Fine O) (hn : n ≤ 50) (h1 : 1 ≤ n) : callAt pg 28 i_summed_in [.int 4, .tup (List.replicate n fine)] O = .ok (.tup [fives n, .int 2]) O := by
  have hz : (List.replicate n fine).length = n := List.length_replicate ..
  obtain ⟨z, ez⟩ : ∃ z, List.replicate n fine = z := ⟨_, rfl⟩
  have hm : ∀ r ∈ z, r = fine := fun r hr => by rw [← ez] at hr; exact (List.mem_replicate.mp hr).2
  rw [ez] at hz ⊢
  have L1 := for_of (turn := foTurn (Xc 27) (.tp (.cons (.nm false 4) (.cons (.nm false 5) .nil))) lop1) (get := itGet (.seq (.tup z))) (R := z) (fun v => v) (fun (_ : Int) _ => 2)
    (fun i s a O' => (s = 1 ∨ s = 2) ∧ (∃ o4 o5, a = .nx [some (.int 4), some (.tup z), some (.int s), some (fives 0), o4, o5, none, none, none, none, none, none]) ∧ O' = O) (s0 := 1) (a0 := .nx [some (.int 4), some (.tup z), some (.int 1), some (fives 0), none, none, none, none, none, none, none, none]) (O0 := O) (by omega) (fun i s a O' hi _ => by rw [List.map_id']; exact get_tup _ i) (fun i s a O' r hr ⟨hs, ⟨o4, o5, ea⟩, eO⟩ => by
      subst ea eO
      have er := hm r (List.mem_of_getElem? hr)
      subst er
      refine ⟨.nx [some (.int 4), some (.tup z), some (.int 2), some (fives 0), some (two 1 2), some (two 1 0), none, none, none, none, none, none], O', ?_, .inr rfl, ⟨_, _, rfl⟩, rfl⟩
      rcases hs with hs | hs <;> subst hs <;> kernel_rfl) ⟨.inl rfl, ⟨_, _, rfl⟩, rfl⟩
  obtain ⟨a1, O1, l1, hs1, ⟨o4, o5, ea⟩, eO⟩ := L1
  subst ea eO
  have es : z.foldl (fun (_ : Int) _ => (2 : Int)) 1 = 2 := by
    cases z with
    | nil => simp at hz; omega
    | cons x r =>
      rw [List.foldl_cons]
      clear l1 hs1 hm ez hz
      induction r with
      | nil => rfl
      | cons y r ih => rw [List.foldl_cons]; exact ih
  rw [es] at l1
  have L2 := for_of (turn := foTurn (Xc 27) (.tp (.cons (.tp (.cons (.nm false 6) (.cons (.nm false 7) .nil))) (.cons (.nm false 5) .nil))) lop2) (get := itGet (.seq (.tup z))) (R := z) (fun v => v) (fun (s : Int) _ => s + 1)
    (fun i s a O' => (∃ o4 o5 o6 o7 o8, a = .nx [some (.int 4), some (.tup z), some (.int 2), some (fives s), o4, o5, o6, o7, o8, none, none, none]) ∧ O' = O1) (s0 := 0) (a0 := .nx [some (.int 4), some (.tup z), some (.int 2), some (fives 0), o4, o5, none, none, none, none, none, none]) (O0 := O1) (by omega) (fun i s a O' hi _ => by rw [List.map_id']; exact get_tup _ i) (fun i s a O' r hr ⟨⟨o4, o5, o6, o7, o8, ea⟩, eO⟩ => by
      subst ea eO
      have er := hm r (List.mem_of_getElem? hr)
      subst er
      have zc := zipc (O := O') s (some (.int 4)) (some (.tup z)) (some (.int 2)) (some (fives s)) o4 (some (two 1 0)) (some (.int 1)) (some (.int 2)) none none none
      refine ⟨.nx [some (.int 4), some (.tup z), some (.int 2), some (fives (s + 1)), o4, some (two 1 0), some (.int 1), some (.int 2), some (.int 1), none, none, none], O', ?_, ⟨_, _, _, _, _, rfl⟩, rfl⟩
      have f3 := F.f3
      unfold lop2 fine
      unfold two fives at *
      have d2 : binR (Xc 27) false .fdiv (.int 2) (.int 2) O' = .ok (.int 1) O' := bin_div 2 2 (by kernel_rfl)
      have m1 : binR (Xc 27) false .mul (.int 1) (.int 1) O' = .ok (.int 1) O' := bin_mul 1 1 (by kernel_rfl)
      have mz : mkIt .zip [.lst [.int s, .int 0, .int 0, .int 0, .int 0], .lst [.int 1, .int 0, .int 0, .int 0, .int 0]] O' = some (.zip (.lst [.int s, .int 0, .int 0, .int 0, .int 0]) (.lst [.int 1, .int 0, .int 0, .int 0, .int 0])) := rfl
      have nl : newL false [.int (s + 1), .int 0, .int 0, .int 0, .int 0] O' = some (.lst [.int (s + 1), .int 0, .int 0, .int 0, .int 0], O') := rfl
      simp only [exs_nil, exs_cons, nxt_nx, nxt_rt, ex_asgQ, ex_ex, ex_ret, ex_ifs, ex_rse, ex_aug, augR_int, ex_augS, augSR_int, oF_some, ev_var, ev_glo, ev_fn, ev_non, ev_bl, ev_int, ev_str, ev_edic, ev_binQ, ev_neg, negR_int, ev_nt, notR_bl, ev_cmp, oB_some, ev_chn, ev_and, ev_or, ev_ite, ev_tup, ev_tupk, ev_lst, ev_isi, ev_intq, intqR_int, ev_idx, ev_sl, ev_rev, ev_call, ev_callV, callVR_fn, ev_blt, ev_mth, mthR_some, ev_att, attR_l, attR_r, noX_ok, ev_mk, mkQ_some, nonR_non, ev_nx0, evs'_nil, evs'_cons, evs_nil, evs_cons, evs_star, starR_some, embR_some, conds_nil, conds_one, isB_bl, asg_t, asg_f, asg_tp, tpR_2, tpR_2l, tpR_3, asg_sub, asg_fld, oS_some, asgs_nil, asgs_cons, tst_t, tst_f, getV_some, bind_ok, bind_exc, ofO_some, ofO2_some, chnR_t, chnR_f, itB_some, close_non, close_bl, close_int, close_str, close_tup, close_lst, close_obj, close_fn, close_edic, close_scr, emb_t, emb_f, bin_add, bin_sub, bin_addt, bin_addl, binV_add, binV_sub, cmp_lt, cmp_le, cmp_gt, cmp_ge, cmp_eqi, cmp_nei, seqOf_tup, seqOf_lst, listOf_lst, mkIt_tup, mkIt_lst, foTurn_nx, whTurn_nx, trn_nx, trn_rt, cpIf_t, cpIf_f, List.getElem?_cons_zero, List.getElem?_cons_succ, List.set_cons_zero, List.set_cons_succ, wipe_nil, wipe_cons, endR_rt, endR_nx, leave_non, leave_bl, leave_int, leave_str, leave_tup, leave_lst, leave_obj, lt_nil, lt_cons, vlt_int, vlt_bl, vlt_str, vlt_non, vlt_tup, vlt_lst, vlt_obj, lt_ints, anyOwn_ints, blt_gcd, blt_abs, blt_toInt, blt_toIntb, blt_min, blt_max, blt_lent, blt_lenl, blt_lens, blt_listt, blt_listl, List.map_cons, List.map_nil, List.replicate, List.cons_append, List.nil_append, Bool.and_true, Bool.and_self, decide_true, decide_false, Bool.not_true, Bool.not_false, d2, m1, f3, ev_cmp1, mz, zc, List.reverse_cons, List.reverse_nil, nl]) ⟨⟨_, _, _, _, _, rfl⟩, rfl⟩
  obtain ⟨a2, O2, l2, ⟨o4', o5', o6', o7', o8', ea⟩, eO⟩ := L2
  subst ea eO
  have ec : ∀ (r : List Val) (a : Int), r.foldl (fun (s : Int) _ => s + 1) a = a + (r.length : Int) := fun r => by
    induction r with
    | nil => intro a; simp
    | cons x r ih => intro a; rw [List.foldl_cons, ih, List.length_cons]; omega
  rw [ec, hz, Int.zero_add] at l2
  have e1 : exs (Xc 27) (takeS 1 f_summed_in.body) [some (.int 4), some (.tup z), none, none, none, none, none, none, none, none, none, none] O2 = .ok (.nx [some (.int 4), some (.tup z), some (.int 1), some (fives 0), none, none, none, none, none, none, none, none]) O2 := by kernel_rfl
  rw [call_run (F := f_summed_in) rfl rfl]
  have e2 := exs_take 1 _ e1
  show endR O2 false (exs (Xc 27) f_summed_in.body [some (.int 4), some (.tup z), none, none, none, none, none, none, none, none, none, none] O2) = _
  rw [e2]
  show endR O2 false (exs (Xc 27) (.cons (.fr (.tp (.cons (.nm false 4) (.cons (.nm false 5) .nil))) .seq (.cons (.var 1) .nil) lop1) (.cons (.fr (.tp (.cons (.tp (.cons (.nm false 6) (.cons (.nm false 7) .nil))) (.cons (.nm false 5) .nil))) .seq (.cons (.var 1) .nil) lop2) (.cons (.ret (.tup (.cons (.var 3) (.cons (.var 2) .nil)))) .nil))) _ O2) = _
  have nt : newT [fives n, .int 2] O2 = some (.tup [fives n, .int 2], O2) := rfl
  have cf : close (fives n) O2 = some (fives n, O2) := rfl
  have lf : (Val.tup [fives n, .int 2]).lt O2.length = true := rfl
  simp only [exs_nil, exs_cons, nxt_nx, nxt_rt, ex_asgQ, ex_ex, ex_ret, ex_ifs, ex_rse, ex_aug, augR_int, ex_augS, augSR_int, oF_some, ev_var, ev_glo, ev_fn, ev_non, ev_bl, ev_int, ev_str, ev_edic, ev_binQ, ev_neg, negR_int, ev_nt, notR_bl, ev_cmp, oB_some, ev_chn, ev_and, ev_or, ev_ite, ev_tup, ev_tupk, ev_lst, ev_isi, ev_intq, intqR_int, ev_idx, ev_sl, ev_rev, ev_call, ev_callV, callVR_fn, ev_blt, ev_mth, mthR_some, ev_att, attR_l, attR_r, noX_ok, ev_mk, mkQ_some, nonR_non, ev_nx0, evs'_nil, evs'_cons, evs_nil, evs_cons, evs_star, starR_some, embR_some, conds_nil, conds_one, isB_bl, asg_t, asg_f, asg_tp, tpR_2, tpR_2l, tpR_3, asg_sub, asg_fld, oS_some, asgs_nil, asgs_cons, tst_t, tst_f, getV_some, bind_ok, bind_exc, ofO_some, ofO2_some, chnR_t, chnR_f, itB_some, close_non, close_bl, close_int, close_str, close_tup, close_lst, close_obj, close_fn, close_edic, close_scr, emb_t, emb_f, bin_add, bin_sub, bin_addt, bin_addl, binV_add, binV_sub, cmp_lt, cmp_le, cmp_gt, cmp_ge, cmp_eqi, cmp_nei, seqOf_tup, seqOf_lst, listOf_lst, mkIt_tup, mkIt_lst, foTurn_nx, whTurn_nx, trn_nx, trn_rt, cpIf_t, cpIf_f, List.getElem?_cons_zero, List.getElem?_cons_succ, List.set_cons_zero, List.set_cons_succ, wipe_nil, wipe_cons, endR_rt, endR_nx, leave_non, leave_bl, leave_int, leave_str, leave_tup, leave_lst, leave_obj, lt_nil, lt_cons, vlt_int, vlt_bl, vlt_str, vlt_non, vlt_tup, vlt_lst, vlt_obj, lt_ints, anyOwn_ints, blt_gcd, blt_abs, blt_toInt, blt_toIntb, blt_min, blt_max, blt_lent, blt_lenl, blt_lens, blt_listt, blt_listl, List.map_cons, List.map_nil, List.replicate, List.cons_append, List.nil_append, Bool.and_true, Bool.and_self, decide_true, decide_false, Bool.not_true, Bool.not_false, ex_fr, l1, l2, nt, cf]
  exact leave_pure rfl lf (List.take_length ..) F.st
theorem endR_exp {c : Nat} {p : List Val} {k : Bool} (h : ltAll O.length p = true) (hO : StOk O) : endR O k (.exc c p O) = .exc c p O := by
  show (match ltAll O.length p && cellsLt O.length (O.take O.length) with
    | true => Res.exc c p (O.take O.length)
    | false => Res.exc c p O) = _
  have e : (ltAll O.length p && cellsLt O.length (O.take O.length)) = true := by rw [List.take_length, h]; exact hO
  rw [e, List.take_length]
/-- the sum of n such terms, up to its end -/
theorem psum50 (F : Fine O) : callAt pg 29 i_powers_sum [.int 4, .tup (List.replicate 50 fine)] O = .ok (.obj 1 [.tup [.int 25, .int 0, .int 0, .int 0, .int 0]]) O := by
  have t1 := are_terms (n := 50) F (by decide)
  have t2 : callAt pg 28 i_summed_in [.int 4, .tup (List.replicate 50 fine)] O = .ok (.tup [.lst [.int 50, .int 0, .int 0, .int 0, .int 0], .int 2]) O := summed (n := 50) F (by decide) (by decide)
  have f4 := F.f4
  have f5 := F.f5
  have f7 := F.f7
  rw [call_run (F := f_powers_sum) rfl rfl]
  unfold f_powers_sum
  have d1 : binR (Xc 28) false .fdiv (.int 2) (.int 2) O = .ok (.int 1) O := bin_div 2 2 (by kernel_rfl)
  have c1 : loopI (itGet (.seq (.lst [.int 50, .int 0, .int 0, .int 0, .int 0]))) (cpTurn (Xc 28) (.bin false .fdiv (.var 6) (.var 3)) (.nm true 6) .nil [some (.int 4), some (.tup (List.replicate 50 fine)), some (.lst [.int 50, .int 0, .int 0, .int 0, .int 0]), some (.int 2), some (.int 1), none, none]) TURNS 0 [] O = .ok [.int 0, .int 0, .int 0, .int 0, .int 25] O := by kernel_rfl
  generalize List.replicate 50 fine = z at *
  have nl : newL false [.int 2, .int 50, .int 0, .int 0, .int 0, .int 0] O = some (.lst [.int 2, .int 50, .int 0, .int 0, .int 0, .int 0], O) := rfl
  have nm : newL false [.int 25, .int 0, .int 0, .int 0, .int 0] O = some (.lst [.int 25, .int 0, .int 0, .int 0, .int 0], O) := rfl
  have bt : bltV .tuple false [.lst [.int 25, .int 0, .int 0, .int 0, .int 0]] O = some (.tup [.int 25, .int 0, .int 0, .int 0, .int 0], O) := rfl
  simp only [exs_nil, exs_cons, nxt_nx, nxt_rt, ex_asgQ, ex_ex, ex_ret, ex_ifs, ex_rse, ex_aug, augR_int, ex_augS, augSR_int, oF_some, ev_var, ev_glo, ev_fn, ev_non, ev_bl, ev_int, ev_str, ev_edic, ev_binQ, ev_neg, negR_int, ev_nt, notR_bl, ev_cmp, oB_some, ev_chn, ev_and, ev_or, ev_ite, ev_tup, ev_tupk, ev_lst, ev_isi, ev_intq, intqR_int, ev_idx, ev_sl, ev_rev, ev_call, ev_callV, callVR_fn, ev_blt, ev_mth, mthR_some, ev_att, attR_l, attR_r, noX_ok, ev_mk, mkQ_some, nonR_non, ev_nx0, evs'_nil, evs'_cons, evs_nil, evs_cons, evs_star, starR_some, embR_some, conds_nil, conds_one, isB_bl, asg_t, asg_f, asg_tp, tpR_2, tpR_2l, tpR_3, asg_sub, asg_fld, oS_some, asgs_nil, asgs_cons, tst_t, tst_f, getV_some, bind_ok, bind_exc, ofO_some, ofO2_some, chnR_t, chnR_f, itB_some, close_non, close_bl, close_int, close_str, close_tup, close_lst, close_obj, close_fn, close_edic, close_scr, emb_t, emb_f, bin_add, bin_sub, bin_addt, bin_addl, binV_add, binV_sub, cmp_lt, cmp_le, cmp_gt, cmp_ge, cmp_eqi, cmp_nei, seqOf_tup, seqOf_lst, listOf_lst, mkIt_tup, mkIt_lst, foTurn_nx, whTurn_nx, trn_nx, trn_rt, cpIf_t, cpIf_f, List.getElem?_cons_zero, List.getElem?_cons_succ, List.set_cons_zero, List.set_cons_succ, wipe_nil, wipe_cons, endR_rt, endR_nx, leave_non, leave_bl, leave_int, leave_str, leave_tup, leave_lst, leave_obj, lt_nil, lt_cons, vlt_int, vlt_bl, vlt_str, vlt_non, vlt_tup, vlt_lst, vlt_obj, lt_ints, anyOwn_ints, blt_gcd, blt_abs, blt_toInt, blt_toIntb, blt_min, blt_max, blt_lent, blt_lenl, blt_lens, blt_listt, blt_listl, List.map_cons, List.map_nil, List.replicate, List.cons_append, List.nil_append, Bool.and_true, Bool.and_self, decide_true, decide_false, Bool.not_true, Bool.not_false, show pg.cons[4]? = some (Val.int 40) from rfl, f4, t1, t2, nl, f5, d1, ev_cmp1, c1, List.reverse_cons, List.reverse_nil, nm, bt, f7, show decide ((1 : Int) < 1) = false from rfl]
  exact leave_pure (v := .obj 1 [.tup [.int 25, .int 0, .int 0, .int 0, .int 0]]) rfl rfl (List.take_length ..) F.st
theorem psum49 (F : Fine O) : callAt pg 29 i_powers_sum [.int 4, .tup (List.replicate 49 fine)] O = .exc 6 [.tup [S "bottom", .int 2]] O := by
  have t1 := are_terms (n := 49) F (by decide)
  have t2 : callAt pg 28 i_summed_in [.int 4, .tup (List.replicate 49 fine)] O = .ok (.tup [.lst [.int 49, .int 0, .int 0, .int 0, .int 0], .int 2]) O := summed (n := 49) F (by decide) (by decide)
  have f4 := F.f4
  have f6 := F.f6
  rw [call_run (F := f_powers_sum) rfl rfl]
  unfold f_powers_sum
  have d1 : binR (Xc 28) false .fdiv (.int 2) (.int 1) O = .ok (.int 2) O := bin_div 2 1 (by kernel_rfl)
  generalize List.replicate 49 fine = z at *
  have nl : newL false [.int 2, .int 49, .int 0, .int 0, .int 0, .int 0] O = some (.lst [.int 2, .int 49, .int 0, .int 0, .int 0, .int 0], O) := rfl
  simp only [exs_nil, exs_cons, nxt_nx, nxt_rt, ex_asgQ, ex_ex, ex_ret, ex_ifs, ex_rse, ex_aug, augR_int, ex_augS, augSR_int, oF_some, ev_var, ev_glo, ev_fn, ev_non, ev_bl, ev_int, ev_str, ev_edic, ev_binQ, ev_neg, negR_int, ev_nt, notR_bl, ev_cmp, oB_some, ev_chn, ev_and, ev_or, ev_ite, ev_tup, ev_tupk, ev_lst, ev_isi, ev_intq, intqR_int, ev_idx, ev_sl, ev_rev, ev_call, ev_callV, callVR_fn, ev_blt, ev_mth, mthR_some, ev_att, attR_l, attR_r, noX_ok, ev_mk, mkQ_some, nonR_non, ev_nx0, evs'_nil, evs'_cons, evs_nil, evs_cons, evs_star, starR_some, embR_some, conds_nil, conds_one, isB_bl, asg_t, asg_f, asg_tp, tpR_2, tpR_2l, tpR_3, asg_sub, asg_fld, oS_some, asgs_nil, asgs_cons, tst_t, tst_f, getV_some, bind_ok, bind_exc, ofO_some, ofO2_some, chnR_t, chnR_f, itB_some, close_non, close_bl, close_int, close_str, close_tup, close_lst, close_obj, close_fn, close_edic, close_scr, emb_t, emb_f, bin_add, bin_sub, bin_addt, bin_addl, binV_add, binV_sub, cmp_lt, cmp_le, cmp_gt, cmp_ge, cmp_eqi, cmp_nei, seqOf_tup, seqOf_lst, listOf_lst, mkIt_tup, mkIt_lst, foTurn_nx, whTurn_nx, trn_nx, trn_rt, cpIf_t, cpIf_f, List.getElem?_cons_zero, List.getElem?_cons_succ, List.set_cons_zero, List.set_cons_succ, wipe_nil, wipe_cons, endR_rt, endR_nx, leave_non, leave_bl, leave_int, leave_str, leave_tup, leave_lst, leave_obj, lt_nil, lt_cons, vlt_int, vlt_bl, vlt_str, vlt_non, vlt_tup, vlt_lst, vlt_obj, lt_ints, anyOwn_ints, blt_gcd, blt_abs, blt_toInt, blt_toIntb, blt_min, blt_max, blt_lent, blt_lenl, blt_lens, blt_listt, blt_listl, List.map_cons, List.map_nil, List.replicate, List.cons_append, List.nil_append, Bool.and_true, Bool.and_self, decide_true, decide_false, Bool.not_true, Bool.not_false, show pg.cons[4]? = some (Val.int 40) from rfl, f4, t1, t2, nl, f6, d1, show decide ((1 : Int) < 2) = true from rfl]
  exact endR_exp rfl F.st
end
end K73
end

section
set_option Elab.async false
set_option linter.all false
set_option maxRecDepth 100000
set_option maxHeartbeats 0
namespace K73
open Mn PySem
/-! ### sums_right -/
abbrev GG : Ss := f__law_sums_right.body
def degs : List Val := [.non, .int (-1), .int 41, .bl true, S "3", .tup [.int 3], .int (10 ^ 60)]
def oddT : List Val := [.non, .int 7, .lst [fine], .tup [two 1 2], .tup [.tup [two 2 4, two 1 0]], .tup [.tup [two 1 2, two 2 0]], .tup [.tup [.int 1, two 1 0]], .tup [.tup [two 1 2, two 0 0]], .tup (List.replicate 51 fine), S "1"]
def terms : List Val := oddT ++ [.tup [.tup [.tup [.int 1, .bl true], two 1 0]], .tup [.tup [two 1 2, .tup [.int 1, .bl false]]], .tup [.tup [two 1 2, two 1 0, .int 0]], .edic, .tup [.tup [two (10 ^ 60) 1, two 1 0]]]
def ones : List Val := [.non, .int (-1), .int 21, .bl true, S "2", .lst [.int 2]]
def others : List Val := [.non, .int (-2), .int 22, .bl false, S "0", .edic]
abbrev sig (k : Nat) (o t d f a b w : Option Val) : Mn.Env := [some (.own k), o, t, d, f, a, b, w]
theorem deg_cases {v : Val} (h : v ∈ degs) : v = .non ∨ v = .int (-1) ∨ v = .int 41 ∨ v = .bl true ∨ v = S "3" ∨ v = .tup [.int 3] ∨ v = .int (10 ^ 60) := by
  unfold degs at h
  simpa only [List.mem_cons, List.not_mem_nil, or_false] using h
theorem one_cases {v : Val} (h : v ∈ ones) : v = .non ∨ v = .int (-1) ∨ v = .int 21 ∨ v = .bl true ∨ v = S "2" ∨ v = .lst [.int 2] := by
  unfold ones at h
  simpa only [List.mem_cons, List.not_mem_nil, or_false] using h
theorem other_cases {v : Val} (h : v ∈ others) : v = .non ∨ v = .int (-2) ∨ v = .int 22 ∨ v = .bl false ∨ v = S "0" ∨ v = .edic := by
  unfold others at h
  simpa only [List.mem_cons, List.not_mem_nil, or_false] using h
theorem term_cases {v : Val} (h : v ∈ terms) : v = .non ∨ v = .int 7 ∨ v = .lst [fine] ∨ v = .tup [two 1 2] ∨ v = .tup [.tup [two 2 4, two 1 0]] ∨ v = .tup [.tup [two 1 2, two 2 0]] ∨ v = .tup [.tup [.int 1, two 1 0]] ∨ v = .tup [.tup [two 1 2, two 0 0]] ∨ v = .tup (List.replicate 51 fine) ∨ v = S "1" ∨
    v = .tup [.tup [.tup [.int 1, .bl true], two 1 0]] ∨ v = .tup [.tup [two 1 2, .tup [.int 1, .bl false]]] ∨ v = .tup [.tup [two 1 2, two 1 0, .int 0]] ∨ v = .edic ∨ v = .tup [.tup [two (10 ^ 60) 1, two 1 0]] := by
  unfold terms oddT at h
  simpa only [List.mem_append, List.mem_cons, List.not_mem_nil, or_false, or_assoc] using h
theorem rp_deg {v : Val} (h : v ∈ degs) : ∃ t, rp v = .tup [S "refused", .str t] := by
  have hs : (reprV v []).isSome = true := by rcases deg_cases h with e | e | e | e | e | e | e <;> subst e <;> kernel_rfl
  obtain ⟨t, ht⟩ := Option.isSome_iff_exists.mp hs
  exact ⟨t, by unfold rp; rw [ht]⟩
theorem rp_one {v : Val} (h : v ∈ ones) : ∃ t, rp v = .tup [S "refused", .str t] := by
  have hs : (reprV v []).isSome = true := by rcases one_cases h with e | e | e | e | e | e <;> subst e <;> kernel_rfl
  obtain ⟨t, ht⟩ := Option.isSome_iff_exists.mp hs
  exact ⟨t, by unfold rp; rw [ht]⟩
/-! the lists -/
theorem gargs0 (k : Nat) (a b c d e f g : Option Val) (O : Store) : evs' (Xc 29) (esOf (hdS GG)) (sig k a b c d e f g) O = .ok [.own k, .lst degs] O := by kernel_rfl
theorem gset12 (k : Nat) (a b c d e f g : Option Val) (O : Store) : exs (Xc 29) (takeS 2 (dropS 1 GG)) (sig k a b c d e f g) O = .ok (.nx (sig k (some (.lst oddT)) b c (some fine) e f g)) O := by kernel_rfl
theorem gargs3 (k : Nat) (b c d e f g : Option Val) (O : Store) : evs' (Xc 29) (esOf (hdS (dropS 3 GG))) (sig k (some (.lst oddT)) b c d e f g) O = .ok [.own k, .lst terms] O := by kernel_rfl
def es1Of : St → Exs
  | .asg _ (.tup (.cons (.call _ es) _)) => es
  | _ => .nil
def es2Of : St → Exs
  | .asg _ (.tup (.cons _ (.cons (.call _ es) _))) => es
  | _ => .nil
theorem gargs4 (k : Nat) (a b c d e f g : Option Val) (O : Store) : evs' (Xc 29) (es1Of (hdS (dropS 4 GG))) (sig k a b c d e f g) O = .ok [.own k, .lst ones] O := by kernel_rfl
theorem gargs5 (k : Nat) (a b c d e f g : Option Val) (O : Store) : evs' (Xc 29) (es2Of (hdS (dropS 4 GG))) (sig k a b c d e f g) O = .ok [.own k, .lst others] O := by kernel_rfl
/-! the calls -/
theorem gseg5 (k : Nat) (o a b : Option Val) (w : Val) : ∀ L : List (Int × Int × Int), 1 ≤ L.length → L.length ≤ 5 → ∀ v ∈ degs, exs (Xc 29) (takeS 1 (dropS 5 GG)) (sig k o none (some v) (some fine) a b (some w)) (DL L) = .ok (.nx (sig k o (some (.own L.length)) (some v) (some fine) a b (some w))) (tl (DL L) [rp v]) := by
  refine shapes ?_ ?_ ?_ ?_ ?_ <;> intros <;> rename_i v hv <;> rcases deg_cases hv with e | e | e | e | e | e | e <;> subst e <;> kernel_rfl
theorem gseg6 (k : Nat) (o a b : Option Val) (dv : Val) (t : PySem.Str) : ∀ L : List (Int × Int × Int), 1 ≤ L.length → L.length ≤ 5 → ∀ v ∈ terms, exs (Xc 29) (takeS 1 (dropS 6 GG)) (sig k o (some (.own L.length)) (some dv) (some fine) a b (some v)) (tl (DL L) [.tup [S "refused", .str t]]) =
    .ok (.nx (sig k o (some (.own L.length)) (some dv) (some fine) a b (some v))) (tl (DL L) [.tup [S "refused", .str t], RO]) := by
  refine shapes ?_ ?_ ?_ ?_ ?_ <;> intros <;> rename_i v hv <;> rcases term_cases hv with e | e | e | e | e | e | e | e | e | e | e | e | e | e | e <;> subst e <;> kernel_rfl
def lamF (r : Res Val) (O : Store) : Res Val := noX (callLAt pg 29 i__law_fault (fun _ => r) O)
theorem ev_lamF {ρ : Mn.Env} {O : Store} (e : Ex) : ev (Xc 29) (.lam i__law_fault e) ρ O = lamF (ev (Xc 29) e ρ O) O := Eq.trans rfl rfl
theorem gapp {ρ : Mn.Env} {O O' : Store} {e : Ex} {v : Val} {k : Nat} {l : List Val} (hl : Mn.listOf O (.own k) = some l) (hv : ev (Xc 29) e ρ O = .ok v O) (h2 : ρ[2]? = some (some (.own k))) (hm : ∀ z, mthV .append z (.own k) [v] O = some (.non, O')) : exs (Xc 29) (.cons (.ex (.mth .append (.var 2) (.cons e .nil))) .nil) ρ O = .ok (.nx ρ) O' := by
  have e1 : ev (Xc 29) (.var 2) ρ O = .ok (.own k) O := by
    show (match ρ[2]? with | some (some v) => Res.ok v O | _ => .bad) = _
    rw [h2]
  have e2 : ex (Xc 29) (.ex (.mth .append (.var 2) (.cons e .nil))) ρ O = .ok (.nx ρ) O' := by
    show (ev (Xc 29) (.mth .append (.var 2) (.cons e .nil)) ρ O).bind _ = _
    have e3 : ev (Xc 29) (.mth .append (.var 2) (.cons e .nil)) ρ O = .ok .non O' := by
      rw [ev_mth, e1]
      show _ = _
      simp only [bind_ok, evs'_cons, evs'_nil, hv, hl, hm, mthR_some, ofO2_some]
    rw [e3]; rfl
  exact one_nx e2
theorem list_at (ts : List Val) : ∀ L : List (Int × Int × Int), 1 ≤ L.length → L.length ≤ 5 → Mn.listOf (tl (DL L) ts) (.own L.length) = some ts := by
  refine shapes ?_ ?_ ?_ ?_ ?_ <;> intros <;> kernel_rfl
theorem fine_at2 (t : PySem.Str) : ∀ L : List (Int × Int × Int), 1 ≤ L.length → L.length ≤ 5 → Fine (tl (DL L) [.tup [S "refused", .str t], RO]) := by
  refine shapes ?_ ?_ ?_ ?_ ?_ <;> intros <;> refine ⟨?_, ?_, ?_, ?_, ?_, ?_, ?_, ?_⟩ <;> first | kernel_rfl | (unfold StOk; kernel_rfl)
theorem fine_at3 (t : PySem.Str) : ∀ L : List (Int × Int × Int), 1 ≤ L.length → L.length ≤ 5 → Fine (tl (DL L) [.tup [S "refused", .str t], RO, LN]) := by
  refine shapes ?_ ?_ ?_ ?_ ?_ <;> intros <;> refine ⟨?_, ?_, ?_, ?_, ?_, ?_, ?_, ?_⟩ <;> first | kernel_rfl | (unfold StOk; kernel_rfl)
theorem lam_let (v : Val) (t : PySem.Str) : ∀ L : List (Int × Int × Int), 1 ≤ L.length → L.length ≤ 5 → lamF (.ok v (tl (DL L) [.tup [S "refused", .str t], RO])) (tl (DL L) [.tup [S "refused", .str t], RO]) = .ok LN (tl (DL L) [.tup [S "refused", .str t], RO]) := by
  refine shapes ?_ ?_ ?_ ?_ ?_ <;> intros <;> kernel_rfl
theorem lam_ref (t : PySem.Str) : ∀ L : List (Int × Int × Int), 1 ≤ L.length → L.length ≤ 5 → lamF (.exc 6 [.tup [S "bottom", .int 2]] (tl (DL L) [.tup [S "refused", .str t], RO, LN])) (tl (DL L) [.tup [S "refused", .str t], RO, LN]) = .ok RB (tl (DL L) [.tup [S "refused", .str t], RO, LN]) := by
  refine shapes ?_ ?_ ?_ ?_ ?_ <;> intros <;> kernel_rfl
theorem app2 (t : PySem.Str) (z : Bool) : ∀ L : List (Int × Int × Int), 1 ≤ L.length → L.length ≤ 5 → mthV .append z (.own L.length) [LN] (tl (DL L) [.tup [S "refused", .str t], RO]) = some (.non, tl (DL L) [.tup [S "refused", .str t], RO, LN]) := by
  refine shapes ?_ ?_ ?_ ?_ ?_ <;> intros <;> cases z <;> kernel_rfl
theorem app3 (t : PySem.Str) (z : Bool) : ∀ L : List (Int × Int × Int), 1 ≤ L.length → L.length ≤ 5 → mthV .append z (.own L.length) [RB] (tl (DL L) [.tup [S "refused", .str t], RO, LN]) = some (.non, tl (DL L) [.tup [S "refused", .str t], RO, LN, RB]) := by
  refine shapes ?_ ?_ ?_ ?_ ?_ <;> intros <;> cases z <;> kernel_rfl
theorem args50 (k : Nat) (o t d a b w : Option Val) (O : Store) : evs' (Xc 29) (.cons (.int 4) (.cons (.bin false .mul (.tup (.cons (.var 4) .nil)) (.int 50)) .nil)) (sig k o t d (some fine) a b w) O = .ok [.int 4, .tup (List.replicate 50 fine)] O := by kernel_rfl
theorem args49 (k : Nat) (o t d a b w : Option Val) (O : Store) : evs' (Xc 29) (.cons (.int 4) (.cons (.bin false .mul (.tup (.cons (.var 4) .nil)) (.int 49)) .nil)) (sig k o t d (some fine) a b w) O = .ok [.int 4, .tup (List.replicate 49 fine)] O := by kernel_rfl
theorem ev_call2 {X : Mn.Ctx} {ρ : Mn.Env} {O : Store} {g : Nat} {es : Exs} {vs : List Val} (he : evs' X es ρ O = .ok vs O) : ev X (.call g es) ρ O = X.call g vs O := by
  show (evs' X es ρ O).bind _ = _
  rw [he]; rfl
theorem gseg7 (k : Nat) (o a b w : Option Val) (dv : Val) (t : PySem.Str) (L : List (Int × Int × Int)) (h1 : 1 ≤ L.length) (h2 : L.length ≤ 5) : exs (Xc 29) (takeS 1 (dropS 7 GG)) (sig k o (some (.own L.length)) (some dv) (some fine) a b w) (tl (DL L) [.tup [S "refused", .str t], RO]) =
    .ok (.nx (sig k o (some (.own L.length)) (some dv) (some fine) a b w)) (tl (DL L) [.tup [S "refused", .str t], RO, LN]) := by
  refine gapp (e := .lam i__law_fault (.call i_powers_sum (.cons (.int 4) (.cons (.bin false .mul (.tup (.cons (.var 4) .nil)) (.int 50)) .nil)))) (list_at _ L h1 h2) ?_ rfl (fun z => app2 t z L h1 h2)
  rw [ev_lamF, ev_call2 (args50 ..)]
  have q : (Xc 29).call i_powers_sum [.int 4, .tup (List.replicate 50 fine)] _ = _ := psum50 (fine_at2 t L h1 h2)
  rw [q]
  exact lam_let _ t L h1 h2
theorem gseg8 (k : Nat) (o a b w : Option Val) (dv : Val) (t : PySem.Str) (L : List (Int × Int × Int)) (h1 : 1 ≤ L.length) (h2 : L.length ≤ 5) : exs (Xc 29) (takeS 1 (dropS 8 GG)) (sig k o (some (.own L.length)) (some dv) (some fine) a b w) (tl (DL L) [.tup [S "refused", .str t], RO, LN]) =
    .ok (.nx (sig k o (some (.own L.length)) (some dv) (some fine) a b w)) (tl (DL L) [.tup [S "refused", .str t], RO, LN, RB]) := by
  refine gapp (e := .lam i__law_fault (.call i_powers_sum (.cons (.int 4) (.cons (.bin false .mul (.tup (.cons (.var 4) .nil)) (.int 49)) .nil)))) (list_at _ L h1 h2) ?_ rfl (fun z => app3 t z L h1 h2)
  rw [ev_lamF, ev_call2 (args49 ..)]
  have q : (Xc 29).call i_powers_sum [.int 4, .tup (List.replicate 49 fine)] _ = _ := psum49 (fine_at3 t L h1 h2)
  rw [q]
  exact lam_ref t L h1 h2
theorem gseg9 (k : Nat) (o f a b w : Option Val) : ∀ L : List (Int × Int × Int), 1 ≤ L.length → L.length ≤ 5 → ∀ v ∈ degs, exs (Xc 29) (takeS 1 (dropS 9 GG)) (sig k o (some (.own L.length)) (some v) f a b w) (tl (DL L) [rp v, RO, LN, RB]) =
    .ok (.nx (sig k o (some (.own L.length)) (some v) f a b w)) (tl (DL L) [rp v, RO, LN, RB]) := by
  refine shapes ?_ ?_ ?_ ?_ ?_ <;> intros <;> rename_i v hv <;> rcases deg_cases hv with e | e | e | e | e | e | e <;> subst e <;> kernel_rfl
theorem gseg10 (k : Nat) (o c f w : Option Val) (t : PySem.Str) : ∀ L : List (Int × Int × Int), 1 ≤ L.length → L.length ≤ 5 → ∀ v ∈ ones, ∀ b ∈ others, exs (Xc 29) (takeS 1 (dropS 10 GG)) (sig k o (some (.own L.length)) c f (some v) (some b) w) (tl (DL L) [.tup [S "refused", .str t], RO, LN, RB]) =
    .ok (.nx (sig k o (some (.own (L.length + 1))) c f (some v) (some b) w)) (tl (tl (DL L) [.tup [S "refused", .str t], RO, LN, RB]) [rp v]) := by
  refine shapes ?_ ?_ ?_ ?_ ?_ <;> intros <;> rename_i v hv b hb <;> rcases one_cases hv with e | e | e | e | e | e <;> subst e <;> rcases other_cases hb with e | e | e | e | e | e <;> subst e <;> kernel_rfl
theorem gseg11 (k : Nat) (o c f w : Option Val) (a : Val) (t u : PySem.Str) : ∀ L : List (Int × Int × Int), 1 ≤ L.length → L.length ≤ 5 → ∀ v ∈ others, exs (Xc 29) (takeS 2 (dropS 11 GG)) (sig k o (some (.own (L.length + 1))) c f (some a) (some v) w) (tl (tl (DL L) [.tup [S "refused", .str t], RO, LN, RB]) [.tup [S "refused", .str u]]) =
    .ok (.nx (sig k o (some (.own (L.length + 1))) c f (some a) (some v) w)) (tl (tl (DL L) [.tup [S "refused", .str t], RO, LN, RB]) [.tup [S "refused", .str u], rp v, LN]) := by
  refine shapes ?_ ?_ ?_ ?_ ?_ <;> intros <;> rename_i v hv <;> rcases other_cases hv with e | e | e | e | e | e <;> subst e <;> kernel_rfl
theorem gseg13 (k : Nat) (o c f w : Option Val) (t : PySem.Str) : ∀ L : List (Int × Int × Int), 1 ≤ L.length → L.length ≤ 5 → ∀ v ∈ ones, ∀ u ∈ others, exs (Xc 29) (dropS 13 GG) (sig k o (some (.own (L.length + 1))) c f (some v) (some u) w) (tl (tl (DL L) [.tup [S "refused", .str t], RO, LN, RB]) [rp v, rp u, LN]) =
    .ok (.rt (.bl true)) (tl (tl (DL L) [.tup [S "refused", .str t], RO, LN, RB]) [rp v, rp u, LN]) := by
  refine shapes ?_ ?_ ?_ ?_ ?_ <;> intros <;> rename_i v hv u hu <;> rcases one_cases hv with e | e | e | e | e | e <;> subst e <;> rcases other_cases hu with e | e | e | e | e | e <;> subst e <;> kernel_rfl
end K73
end

section
set_option Elab.async false
set_option linter.all false
set_option maxRecDepth 100000
set_option maxHeartbeats 0
namespace K73
open Mn PySem
section
variable {O O0 : Store} {k n : Nat}
theorem frm_ok (l : List Int) : okV (frm l) = true := rfl
theorem nones_ok {l : List Int} {v : Val} (h : v ∈ nones (frm l)) : okV v = true ∧ isOwn v = false ∧ ∀ m, v.lt m = true := by
  unfold nones at h
  simp only [List.mem_cons, List.not_mem_nil, or_false] at h
  rcases h with e | e | e | e | e | e <;> subst e
  · exact ⟨rfl, rfl, fun _ => rfl⟩
  · exact ⟨rfl, rfl, fun _ => rfl⟩
  · exact ⟨rfl, rfl, fun _ => rfl⟩
  · exact ⟨rfl, rfl, fun _ => rfl⟩
  · exact ⟨rfl, rfl, fun m => by rw [vlt_lst, lt_cons, frm_lt]; rfl⟩
  · exact ⟨rfl, rfl, fun _ => rfl⟩
theorem manys_ok {v : Val} (h : v ∈ manys) : okV v = true ∧ isOwn v = false ∧ ∀ m, v.lt m = true := by
  rcases many_cases h with e | e | e | e | e | e | e <;> subst e <;> exact ⟨rfl, rfl, fun _ => rfl⟩
theorem lt_pairs (m q : Nat) : ltAll q ((List.range m).map fun i => Val.tup [.int 1, .int (i : Nat)]) = true := by
  have : ∀ r : List Nat, ltAll q (r.map fun i => Val.tup [.int 1, .int (i : Nat)]) = true := fun r => by
    induction r with
    | nil => rfl
    | cons x r ih =>
      show (true && ltAll q (r.map _)) = true
      rw [ih]; rfl
  exact this _
theorem wrongs_ok {m : Nat} {v : Val} (h : v ∈ wrongs m) : okV v = true ∧ isOwn v = false ∧ ∀ q, v.lt q = true := by
  rcases wrong_cases h with e | e | e | e | e | e | e | e | e | e | e | e | e | e <;> subst e <;> first | exact ⟨rfl, rfl, fun _ => rfl⟩ | exact ⟨rfl, rfl, fun q => by rw [vlt_tup]; exact lt_pairs _ _⟩
theorem degs_ok {v : Val} (h : v ∈ degs) : okV v = true ∧ isOwn v = false ∧ ∀ m, v.lt m = true := by
  rcases deg_cases h with e | e | e | e | e | e | e <;> subst e <;> exact ⟨rfl, rfl, fun _ => rfl⟩
theorem ones_ok {v : Val} (h : v ∈ ones) : okV v = true ∧ isOwn v = false ∧ ∀ m, v.lt m = true := by
  rcases one_cases h with e | e | e | e | e | e <;> subst e <;> exact ⟨rfl, rfl, fun _ => rfl⟩
theorem others_ok {v : Val} (h : v ∈ others) : okV v = true ∧ isOwn v = false ∧ ∀ m, v.lt m = true := by
  rcases other_cases h with e | e | e | e | e | e <;> subst e <;> exact ⟨rfl, rfl, fun _ => rfl⟩
theorem lt_fines (q : Nat) : ∀ m : Nat, ltAll q (List.replicate m fine) = true
  | 0 => rfl
  | m + 1 => by
    show (true && ltAll q (List.replicate m fine)) = true
    rw [lt_fines q m]; rfl
theorem terms_ok {v : Val} (h : v ∈ terms) : okV v = true ∧ isOwn v = false ∧ ∀ m, v.lt m = true := by
  rcases term_cases h with e | e | e | e | e | e | e | e | e | e | e | e | e | e | e <;> subst e <;> first | exact ⟨rfl, rfl, fun _ => rfl⟩ | exact ⟨rfl, rfl, fun q => by rw [vlt_tup]; exact lt_fines _ _⟩
theorem dl_eq {L0 : List (Int × Int × Int)} (h : Dz (DL L0) k n O) : ∃ L, L.length = L0.length ∧ O = DL L := h.dl
theorem forms_right_ok {l : List Int} {L0 : List (Int × Int × Int)} (hl1 : 1 ≤ l.length) (hl2 : l.length ≤ 5) (h1 : 1 ≤ L0.length) (h5 : L0.length ≤ 5) (h : Dz (DL L0) k n O) (hn : n + 10 < 1000000) :
    ∃ O', Dz (DL L0) k (n + 3) O' ∧ callAt pg 30 i__law_forms_right [.own k, frm l] O = .ok (.bl true) O' := by
  obtain ⟨v5, O1, m5, d1, c1⟩ := law_pick_ok (d := 27) (l := nones (frm l)) h (by omega) (by show 0 < 6; decide) (by show 6 < 1000; decide) (fun v hv => (nones_ok hv).2)
  obtain ⟨v4, O2, m4, d2, c2⟩ := law_pick_ok (d := 27) (l := manys) d1 (by omega) (by show 0 < 7; decide) (by show 7 < 1000; decide) (fun v hv => (manys_ok hv).2)
  obtain ⟨v6, O3, m6, d3, c3⟩ := law_pick_ok (d := 27) (l := wrongs (l.length + 1)) d2 (by omega) (by show 0 < 14; decide) (by show 14 < 1000; decide) (fun v hv => (wrongs_ok hv).2)
  obtain ⟨L2, z2, rfl⟩ := d2.dl
  obtain ⟨L, z3, rfl⟩ := d3.dl
  have s1 : ex (Xc 29) (hdS FF) (rho k (some (frm l)) none none none none none) O = .ok (.nx (rho k (some (frm l)) none none none (some v5) none)) O1 := ex_pick (args1 k l none none none none none O) c1 (close_okV (nones_ok m5).1)
  have s2 : ex (Xc 29) (hdS (tlS FF)) (rho k (some (frm l)) none none none (some v5) none) O1 = .ok (.nx (rho k (some (frm l)) none none (some v4) (some v5) none)) (DL L2) := ex_pick (args2 k none none none (some v5) none (some (frm l)) O1) c2 (close_okV (manys_ok m4).1)
  have s3 := odd3 (some (.own k)) (some (frm l)) none (some v4) (some v5) none none (DL L2)
  have s4 : ex (Xc 29) (hdS (tlS (tlS (tlS FF)))) (rho k (some (frm l)) (some (.lst odds)) none (some v4) (some v5) none) (DL L2) = .ok (.nx (rho k (some (frm l)) (some (.lst odds)) none (some v4) (some v5) (some v6))) (DL L) := ex_pick (args4 k none (some v4) (some v5) none L2 (by omega) (by omega) l hl1 hl2) c3 (close_okV (wrongs_ok m6).1)
  refine ⟨DL L, d3, ?_⟩
  obtain ⟨t, et⟩ := rp_form m4
  have q1 := exs_take (X := Xc 29) 1 FF (one_nx s1)
  have q2 := exs_take (X := Xc 29) 1 (dropS 1 FF) (one_nx s2)
  have q3 := exs_take (X := Xc 29) 1 (dropS 2 FF) (one_nx s3)
  have q4 := exs_take (X := Xc 29) 1 (dropS 3 FF) (one_nx s4)
  have q5 := exs_take (X := Xc 29) 5 (dropS 4 FF) (seg1 k (some (frm l)) (some (.lst odds)) v4 v6 (frm l) L (by omega) (by omega) v5 m5)
  have q6 := exs_take (X := Xc 29) 2 (dropS 9 FF) (seg2 k (some (.lst odds)) v5 v6 l L (by omega) (by omega) v4 m4)
  have q7 := exs_take (X := Xc 29) 1 (dropS 11 FF) (seg3 k (some (.lst odds)) v5 v4 t L (by omega) (by omega) l hl1 hl2 v6 m6)
  have q8 := seg4 [] L (by omega) (by omega) k (some (frm l)) (some (.lst odds)) (some v5) (some v6) v4 m4
  rw [et] at q6 q8
  have fin : exs (Xc 29) FF (rho k (some (frm l)) none none none none none) O = .ok (.rt (.bl true)) (tl (tl (DL L) [RF, RF, RF, RF]) [.tup [S "refused", .str t], .tup [S "refused", .str t], RP]) :=
    q1.trans (q2.trans (q3.trans (q4.trans (q5.trans (q6.trans (q7.trans q8))))))
  rw [call_run (F := f__law_forms_right) rfl rfl]
  show endR O false (exs (Xc 29) FF (rho k (some (frm l)) none none none none none) O) = _
  rw [fin, endR_rt]
  have ln : (DL L).length = O.length := by rw [d3.len, h.len]
  exact leave_take rfl rfl (by rw [List.take_append_of_le_length (by rw [List.length_append, ln]; omega), List.take_append_of_le_length (by rw [ln]; omega), ← ln, List.take_length]) ln d3.st
end
end K73
end

section
set_option Elab.async false
set_option linter.all false
set_option maxRecDepth 100000
set_option maxHeartbeats 0
namespace K73
open Mn PySem
section
variable {O O0 : Store} {k n : Nat}
theorem ex_two {ρ : Mn.Env} {O O1 O2 : Store} {g : Nat} {e1 e2 : Exs} {a1 a2 : List Val} {v w : Val} (h1 : evs' (Xc 29) e1 ρ O = .ok a1 O) (c1 : (Xc 29).call g a1 O = .ok v O1) (h2 : evs' (Xc 29) e2 ρ O1 = .ok a2 O1) (c2 : (Xc 29).call g a2 O1 = .ok w O2) (k1 : ∀ O, close v O = some (v, O)) (k2 : ∀ O, close w O = some (w, O)) :
    ex (Xc 29) (.asg (.tp (.cons (.nm false 5) (.cons (.nm false 6) .nil))) (.tup (.cons (.call g e1) (.cons (.call g e2) .nil)))) ρ O = .ok (.nx ((ρ.set 5 (some v)).set 6 (some w))) O2 := by
  have nt : newT [v, w] O2 = some (.tup [v, w], O2) := rfl
  have c1 : callAt pg 29 g a1 O = .ok v O1 := c1
  have c2 : callAt pg 29 g a2 O1 = .ok w O2 := c2
  simp only [exs_nil, exs_cons, nxt_nx, nxt_rt, ex_asgQ, ex_ex, ex_ret, ex_ifs, ex_rse, ex_aug, augR_int, ex_augS, augSR_int, oF_some, ev_var, ev_glo, ev_fn, ev_non, ev_bl, ev_int, ev_str, ev_edic, ev_binQ, ev_neg, negR_int, ev_nt, notR_bl, ev_cmp, oB_some, ev_chn, ev_and, ev_or, ev_ite, ev_tup, ev_tupk, ev_lst, ev_isi, ev_intq, intqR_int, ev_idx, ev_sl, ev_rev, ev_call, ev_callV, callVR_fn, ev_blt, ev_mth, mthR_some, ev_att, attR_l, attR_r, noX_ok, ev_mk, mkQ_some, nonR_non, ev_nx0, evs'_nil, evs'_cons, evs_nil, evs_cons, evs_star, starR_some, embR_some, conds_nil, conds_one, isB_bl, asg_t, asg_f, asg_tp, tpR_2, tpR_2l, tpR_3, asg_sub, asg_fld, oS_some, asgs_nil, asgs_cons, tst_t, tst_f, getV_some, bind_ok, bind_exc, ofO_some, ofO2_some, chnR_t, chnR_f, itB_some, close_non, close_bl, close_int, close_str, close_tup, close_lst, close_obj, close_fn, close_edic, close_scr, emb_t, emb_f, bin_add, bin_sub, bin_addt, bin_addl, binV_add, binV_sub, cmp_lt, cmp_le, cmp_gt, cmp_ge, cmp_eqi, cmp_nei, seqOf_tup, seqOf_lst, listOf_lst, mkIt_tup, mkIt_lst, foTurn_nx, whTurn_nx, trn_nx, trn_rt, cpIf_t, cpIf_f, List.getElem?_cons_zero, List.getElem?_cons_succ, List.set_cons_zero, List.set_cons_succ, wipe_nil, wipe_cons, endR_rt, endR_nx, leave_non, leave_bl, leave_int, leave_str, leave_tup, leave_lst, leave_obj, lt_nil, lt_cons, vlt_int, vlt_bl, vlt_str, vlt_non, vlt_tup, vlt_lst, vlt_obj, lt_ints, anyOwn_ints, blt_gcd, blt_abs, blt_toInt, blt_toIntb, blt_min, blt_max, blt_lent, blt_lenl, blt_lens, blt_listt, blt_listl, List.map_cons, List.map_nil, List.replicate, List.cons_append, List.nil_append, Bool.and_true, Bool.and_self, decide_true, decide_false, Bool.not_true, Bool.not_false, h1, c1, h2, c2, k1, k2, nt]
theorem sums_right_ok {L0 : List (Int × Int × Int)} (h1 : 1 ≤ L0.length) (h5 : L0.length ≤ 5) (h : Dz (DL L0) k n O) (hn : n + 10 < 1000000) :
    ∃ O', Dz (DL L0) k (n + 4) O' ∧ callAt pg 30 i__law_sums_right [.own k] O = .ok (.bl true) O' := by
  obtain ⟨vd, O1, md, d1, c1⟩ := law_pick_ok (d := 27) (l := degs) h (by omega) (by show 0 < 7; decide) (by show 7 < 1000; decide) (fun v hv => (degs_ok hv).2)
  obtain ⟨vt, O2, mt, d2, c2⟩ := law_pick_ok (d := 27) (l := terms) d1 (by omega) (by show 0 < 15; decide) (by show 15 < 1000; decide) (fun v hv => (terms_ok hv).2)
  obtain ⟨va, O3, ma, d3, c3⟩ := law_pick_ok (d := 27) (l := ones) d2 (by omega) (by show 0 < 6; decide) (by show 6 < 1000; decide) (fun v hv => (ones_ok hv).2)
  obtain ⟨vb, O4, mb, d4, c4⟩ := law_pick_ok (d := 27) (l := others) d3 (by omega) (by show 0 < 6; decide) (by show 6 < 1000; decide) (fun v hv => (others_ok hv).2)
  obtain ⟨L, z4, rfl⟩ := d4.dl
  have s0 : ex (Xc 29) (hdS GG) (sig k none none none none none none none) O = .ok (.nx (sig k none none (some vd) none none none none)) O1 := ex_pick (gargs0 k none none none none none none none O) c1 (close_okV (degs_ok md).1)
  have s1 := gset12 k none none (some vd) none none none none O1
  have s3 : ex (Xc 29) (hdS (dropS 3 GG)) (sig k (some (.lst oddT)) none (some vd) (some fine) none none none) O1 = .ok (.nx (sig k (some (.lst oddT)) none (some vd) (some fine) none none (some vt))) O2 := ex_pick (gargs3 k none (some vd) (some fine) none none none O1) c2 (close_okV (terms_ok mt).1)
  have s4 : ex (Xc 29) (hdS (dropS 4 GG)) (sig k (some (.lst oddT)) none (some vd) (some fine) none none (some vt)) O2 = .ok (.nx (sig k (some (.lst oddT)) none (some vd) (some fine) (some va) (some vb) (some vt))) (DL L) :=
    ex_two (gargs4 k (some (.lst oddT)) none (some vd) (some fine) none none (some vt) O2) c3 (gargs5 k (some (.lst oddT)) none (some vd) (some fine) none none (some vt) O3) c4 (fun O => close_okV (ones_ok ma).1) (fun O => close_okV (others_ok mb).1)
  refine ⟨DL L, d4, ?_⟩
  obtain ⟨t, et⟩ := rp_deg md
  obtain ⟨u, eu⟩ := rp_one ma
  have H1 : 1 ≤ L.length := by omega
  have H5 : L.length ≤ 5 := by omega
  have q0 := exs_take (X := Xc 29) 1 GG (one_nx s0)
  have q1 := exs_take (X := Xc 29) 2 (dropS 1 GG) s1
  have q3 := exs_take (X := Xc 29) 1 (dropS 3 GG) (one_nx s3)
  have q4 := exs_take (X := Xc 29) 1 (dropS 4 GG) (one_nx s4)
  have q5 := exs_take (X := Xc 29) 1 (dropS 5 GG) (gseg5 k (some (.lst oddT)) (some va) (some vb) vt L H1 H5 vd md)
  have q6 := exs_take (X := Xc 29) 1 (dropS 6 GG) (gseg6 k (some (.lst oddT)) (some va) (some vb) vd t L H1 H5 vt mt)
  have q7 := exs_take (X := Xc 29) 1 (dropS 7 GG) (gseg7 k (some (.lst oddT)) (some va) (some vb) (some vt) vd t L H1 H5)
  have q8 := exs_take (X := Xc 29) 1 (dropS 8 GG) (gseg8 k (some (.lst oddT)) (some va) (some vb) (some vt) vd t L H1 H5)
  have q9 := exs_take (X := Xc 29) 1 (dropS 9 GG) (gseg9 k (some (.lst oddT)) (some fine) (some va) (some vb) (some vt) L H1 H5 vd md)
  have q10 := exs_take (X := Xc 29) 1 (dropS 10 GG) (gseg10 k (some (.lst oddT)) (some vd) (some fine) (some vt) t L H1 H5 va ma vb mb)
  have q11 := exs_take (X := Xc 29) 2 (dropS 11 GG) (gseg11 k (some (.lst oddT)) (some vd) (some fine) (some vt) va t u L H1 H5 vb mb)
  have q13 := gseg13 k (some (.lst oddT)) (some vd) (some fine) (some vt) t L H1 H5 va ma vb mb
  rw [et] at q5 q9
  rw [eu] at q10 q13
  have fin : exs (Xc 29) GG (sig k none none none none none none none) O = .ok (.rt (.bl true)) (tl (tl (DL L) [.tup [S "refused", .str t], RO, LN, RB]) [.tup [S "refused", .str u], rp vb, LN]) :=
    q0.trans (q1.trans (q3.trans (q4.trans (q5.trans (q6.trans (q7.trans (q8.trans (q9.trans (q10.trans (q11.trans q13))))))))))
  rw [call_run (F := f__law_sums_right) rfl rfl]
  show endR O false (exs (Xc 29) GG (sig k none none none none none none none) O) = _
  rw [fin, endR_rt]
  have ln : (DL L).length = O.length := by rw [d4.len, h.len]
  exact leave_take rfl rfl (by rw [List.take_append_of_le_length (by rw [List.length_append, ln]; omega), List.take_append_of_le_length (by rw [ln]; omega), ← ln, List.take_length]) ln d4.st
/-! ### the law -/
abbrev finE : Ex := (.and (.cmp .eq (.idx (.call i_powers_paper (.cons (.mk 1 (.cons (.tup (.cons (.int 1) (.cons (.int 1) (.cons (.int 1) .nil)))) .nil)) (.cons (.int 50) .nil))) (.int 0)) (.str "powers")) (.att (.call i_powers_sum (.cons (.int 40) (.cons (.tup .nil) .nil))) 4))
theorem fin_at (ρ : Mn.Env) : ∀ L : List (Int × Int × Int), 1 ≤ L.length → L.length ≤ 5 → ev (Xc 30) finE ρ (DL L) = .ok (.bl true) (DL L) := by
  refine shapes ?_ ?_ ?_ ?_ ?_ <;> intros <;> kernel_rfl
abbrev lawBody : Ss := (.cons (.asg (.nm true 2) (.call i__law_dice (.cons (.var 0) (.cons (.var 1) .nil))))
    (.cons (.asg (.nm false 3) (.mk 1 (.cons (.call i__law_small_form (.cons (.var 2) (.cons (.call i__law_roll (.cons (.var 2) (.cons (.int 5) .nil))) (.cons (.int 3) .nil)))) .nil)))
    (.cons (.ifs (.or (.nt (.call i__law_forms_right (.cons (.var 2) (.cons (.var 3) .nil)))) (.nt (.call i__law_sums_right (.cons (.var 2) .nil)))) (.cons (.ret (.bl false))
    .nil) .nil)
    .nil)))
theorem law_turn {s : List Int} {L : List (Int × Int × Int)} {i : Nat} (hi : i < 5) (hL : L.length = i) (o1 o2 o3 : Option Val) :
    ∃ (o1' o2' o3' : Option Val) (L' : List (Int × Int × Int)), L'.length = i + 1 ∧ foTurn (Xc 30) (.nm false 1) lawBody (.int (0 + (i : Int))) (.nx [some (.scr (s.map .int)), o1, o2, o3]) (DL L) = .ok (.nx [some (.scr (s.map .int)), o1', o2', o3'], true) (DL L') := by
  obtain ⟨x, y, dz, e1⟩ := dice_ok (d := 29) (s := s) (spot := i) (dl_ok L) (by omega)
  have eD : DL L ++ [.lst true [.int x, .int y, .int 0]] = DL (L ++ [(x, y, 0)]) := by unfold DL; rw [List.map_append]; rfl
  rw [eD] at dz e1
  have hL1 : (L ++ [(x, y, (0 : Int))]).length = i + 1 := by rw [List.length_append, hL]; rfl
  generalize L ++ [(x, y, (0 : Int))] = L1 at dz e1 hL1
  generalize (DL L).length = k at dz e1
  obtain ⟨r, O1, r1, r2, r3⟩ := law_roll_ok (d := 29) (t := 5) dz (by decide) (by decide) (by decide)
  rw [show ((5 : Nat) : Int) = 5 from rfl] at r3
  obtain ⟨l, O2, l1, l2, l3, l4⟩ := small_form_ok (d := 27) (g := r) (t := 3) r2 (by omega) (by omega) (by decide)
  rw [show ((3 : Nat) : Int) = 3 from rfl] at l4
  have sml : SmL 62 l := n1_sm (Nat.lt_of_le_of_lt l2 (Nat.lt_of_le_of_lt (show (r + 1) * 3 ≤ 15 by omega) (by decide)))
  have mf := mk_form (d := 25) (l := l) (O := O2) l3.st (by omega) (by omega) (fun x hx => short_sm (sml x hx))
  obtain ⟨O3, p1, p2⟩ := forms_right_ok (l := l) (by omega) (by omega) (by omega) (by omega) l3 (by omega)
  obtain ⟨O4, p3, p4⟩ := sums_right_ok (by omega) (by omega) p1 (by omega)
  obtain ⟨L', y1, y2⟩ := p3.dl
  subst y2
  refine ⟨some (.int (0 + (i : Int))), some (.own k), some (frm l), L', by omega, ?_⟩
  have fc : close (frm l) O2 = some (frm l, O2) := Eq.trans rfl rfl
  unfold lawBody
  simp only [exs_nil, exs_cons, nxt_nx, nxt_rt, ex_asgQ, ex_ex, ex_ret, ex_ifs, ex_rse, ex_aug, augR_int, ex_augS, augSR_int, oF_some, ev_var, ev_glo, ev_fn, ev_non, ev_bl, ev_int, ev_str, ev_edic, ev_binQ, ev_neg, negR_int, ev_nt, notR_bl, ev_cmp, oB_some, ev_chn, ev_and, ev_or, ev_ite, ev_tup, ev_tupk, ev_lst, ev_isi, ev_intq, intqR_int, ev_idx, ev_sl, ev_rev, ev_call, ev_callV, callVR_fn, ev_blt, ev_mth, mthR_some, ev_att, attR_l, attR_r, noX_ok, ev_mk, mkQ_some, nonR_non, ev_nx0, evs'_nil, evs'_cons, evs_nil, evs_cons, evs_star, starR_some, embR_some, conds_nil, conds_one, isB_bl, asg_t, asg_f, asg_tp, tpR_2, tpR_2l, tpR_3, asg_sub, asg_fld, oS_some, asgs_nil, asgs_cons, tst_t, tst_f, getV_some, bind_ok, bind_exc, ofO_some, ofO2_some, chnR_t, chnR_f, itB_some, close_non, close_bl, close_int, close_str, close_tup, close_lst, close_obj, close_fn, close_edic, close_scr, emb_t, emb_f, bin_add, bin_sub, bin_addt, bin_addl, binV_add, binV_sub, cmp_lt, cmp_le, cmp_gt, cmp_ge, cmp_eqi, cmp_nei, seqOf_tup, seqOf_lst, listOf_lst, mkIt_tup, mkIt_lst, foTurn_nx, whTurn_nx, trn_nx, trn_rt, cpIf_t, cpIf_f, List.getElem?_cons_zero, List.getElem?_cons_succ, List.set_cons_zero, List.set_cons_succ, wipe_nil, wipe_cons, endR_rt, endR_nx, leave_non, leave_bl, leave_int, leave_str, leave_tup, leave_lst, leave_obj, lt_nil, lt_cons, vlt_int, vlt_bl, vlt_str, vlt_non, vlt_tup, vlt_lst, vlt_obj, lt_ints, anyOwn_ints, blt_gcd, blt_abs, blt_toInt, blt_toIntb, blt_min, blt_max, blt_lent, blt_lenl, blt_lens, blt_listt, blt_listl, List.map_cons, List.map_nil, List.replicate, List.cons_append, List.nil_append, Bool.and_true, Bool.and_self, decide_true, decide_false, Bool.not_true, Bool.not_false, -mkQ_some, Int.zero_add, e1, r3, l4, cls1, mf, fc, p2, p4]
theorem law_run (s : List Int) : ∃ O, callAt pg (30 + 1) i_law [.scr (s.map .int)] [] = .ok (.bl true) O := by
  obtain ⟨m, m1, m2, m3⟩ : ∃ m : Nat, (if (1 : Int) < (if (s.length : Int) < 5 then (s.length : Int) else 5) then (if (s.length : Int) < 5 then (s.length : Int) else 5) else 1) = (m : Int) ∧ m ≤ 5 ∧ 1 ≤ m := by
    by_cases h1 : (s.length : Int) < 5
    · rw [if_pos h1]
      by_cases h2 : (1 : Int) < (s.length : Int)
      · rw [if_pos h2]; exact ⟨s.length, rfl, by omega, by omega⟩
      · rw [if_neg h2]; exact ⟨1, rfl, by decide, by decide⟩
    · rw [if_neg h1]; exact ⟨5, rfl, by decide, by decide⟩
  obtain ⟨a', O1, f1, ⟨o1, o2, o3, ea⟩, L, hL, eO⟩ := for_of (turn := foTurn (Xc 30) (.nm false 1) lawBody) (get := itGet (.rng 0 1 m)) (R := List.range m) (fun (k : Nat) => Val.int (0 + (k : Int))) (fun (u : Unit) _ => u)
    (fun i _ a' O' => (∃ o1 o2 o3, a' = .nx [some (.scr (s.map .int)), o1, o2, o3]) ∧ ∃ L : List (Int × Int × Int), L.length = i ∧ O' = DL L) (s0 := ()) (a0 := .nx [some (.scr (s.map .int)), none, none, none]) (O0 := []) (by rw [List.length_range]; omega) (fun i s a O' hi _ => rng_get 0 m i O') (fun i _ a' O' r hr ⟨⟨o1, o2, o3, ea⟩, L, hL, eO⟩ => by
      subst ea eO
      have hi : i < m := by
        have := (List.getElem?_eq_some_iff.mp hr).1
        rwa [List.length_range] at this
      rw [List.getElem?_range hi] at hr
      cases hr
      obtain ⟨p1, p2, p3, L', l1, l2⟩ := law_turn (s := s) (by omega) hL o1 o2 o3
      exact ⟨_, _, l2, ⟨_, _, _, rfl⟩, L', l1, rfl⟩) ⟨⟨_, _, _, rfl⟩, [], rfl, rfl⟩
  subst ea eO
  rw [List.length_range] at hL
  have fe := fin_at [some (.scr (s.map .int)), o1, o2, o3] L (by omega) (by omega)
  have hO := dl_ok L
  generalize DL L = O at f1 hO fe
  refine ⟨[], ?_⟩
  rw [call_run (F := f_law) rfl rfl]
  obtain ⟨fx, efx⟩ : ∃ fx : Ex, finE = fx := ⟨_, rfl⟩
  rw [efx] at fe
  show endR [] false (exs (Xc 30) (.cons (.fr (.nm false 1) .rng (.cons (.blt .max false (.cons (.int 1) (.cons (.blt .min false (.cons (.int 5) (.cons (.blt .len false (.cons (.var 0) .nil)) .nil))) .nil))) .nil) lawBody) (.cons (.ret finE) .nil)) [some (.scr (s.map .int)), none, none, none] []) = _
  rw [efx]
  unfold lawBody at f1 ⊢
  simp only [exs_nil, exs_cons, nxt_nx, nxt_rt, ex_asgQ, ex_ex, ex_ret, ex_ifs, ex_rse, ex_aug, augR_int, ex_augS, augSR_int, oF_some, ev_var, ev_glo, ev_fn, ev_non, ev_bl, ev_int, ev_str, ev_edic, ev_binQ, ev_neg, negR_int, ev_nt, notR_bl, ev_cmp, oB_some, ev_chn, ev_and, ev_or, ev_ite, ev_tup, ev_tupk, ev_lst, ev_isi, ev_intq, intqR_int, ev_idx, ev_sl, ev_rev, ev_call, ev_callV, callVR_fn, ev_blt, ev_mth, mthR_some, ev_att, attR_l, attR_r, noX_ok, ev_mk, mkQ_some, nonR_non, ev_nx0, evs'_nil, evs'_cons, evs_nil, evs_cons, evs_star, starR_some, embR_some, conds_nil, conds_one, isB_bl, asg_t, asg_f, asg_tp, tpR_2, tpR_2l, tpR_3, asg_sub, asg_fld, oS_some, asgs_nil, asgs_cons, tst_t, tst_f, getV_some, bind_ok, bind_exc, ofO_some, ofO2_some, chnR_t, chnR_f, itB_some, close_non, close_bl, close_int, close_str, close_tup, close_lst, close_obj, close_fn, close_edic, close_scr, emb_t, emb_f, bin_add, bin_sub, bin_addt, bin_addl, binV_add, binV_sub, cmp_lt, cmp_le, cmp_gt, cmp_ge, cmp_eqi, cmp_nei, seqOf_tup, seqOf_lst, listOf_lst, mkIt_tup, mkIt_lst, foTurn_nx, whTurn_nx, trn_nx, trn_rt, cpIf_t, cpIf_f, List.getElem?_cons_zero, List.getElem?_cons_succ, List.set_cons_zero, List.set_cons_succ, wipe_nil, wipe_cons, endR_rt, endR_nx, leave_non, leave_bl, leave_int, leave_str, leave_tup, leave_lst, leave_obj, lt_nil, lt_cons, vlt_int, vlt_bl, vlt_str, vlt_non, vlt_tup, vlt_lst, vlt_obj, lt_ints, anyOwn_ints, blt_gcd, blt_abs, blt_toInt, blt_toIntb, blt_min, blt_max, blt_lent, blt_lenl, blt_lens, blt_listt, blt_listl, List.map_cons, List.map_nil, List.replicate, List.cons_append, List.nil_append, Bool.and_true, Bool.and_self, decide_true, decide_false, Bool.not_true, Bool.not_false, List.length_map, m1, ex_fr, mkIt_rng (m : Int) (rng_small (by omega)), Int.toNat_natCast, f1, fe]
  exact leave_take rfl rfl rfl rfl (by rfl)
end
end K73
end

namespace K73d
open PySem PySem.Spec PyProof.Rows L2 Mn
set_option maxRecDepth 100000
set_option maxHeartbeats 0
theorem pg_eq : ld.pg = K73.pg := by kernel_rfl
theorem lawRun : ∀ ns : List Int, ns.length ≤ 63 → (∀ z ∈ ns, Builtin.Int.intBits z ≤ 1048576) → ∃ O, callAt ld.pg (30 + 1) lawIx [.scr (ns.map .int)] [] = .ok (.bl true) O := fun ns _ _ => by
  rw [pg_eq]
  exact K73.law_run ns
def dl : Df := ⟨.glo "law", "law", "law", top lawTop⟩
def argx : Arg := (defArgs dl.st).args.getD 0 ⟨Str.empty, none, ⟨0, 0, 0, 0⟩⟩
end K73d

section
open PySem PySem.W PySem.Calls PyProof.Rows
set_option maxRecDepth 100000
set_option maxHeartbeats 0
theorem PySem.Challenge.cw_sourceforms_k73_errors_of_powers_holds : PySem.Challenge.rw_sourceforms_k73_errors_of_powers.Holds := by
  w_on; o_law
  refine HandSHeadRun.head_imp (r := OpenLaw.row PySem.Challenge.rw_sourceforms_k73_errors_of_powers) (q := view (OpenLaw.row PySem.Challenge.rw_sourceforms_k73_errors_of_powers).prog [0, K73d.lawTop]) (H := K73d.hk) (ob := K73d.ob) (M := 40000) (loose := K73d.loose) (d := HandSHeadRun.topDef (OpenLaw.row PySem.Challenge.rw_sourceforms_k73_errors_of_powers).prog K73d.lawTop) (kwd := []) K73d.ob_eq
    K73d.run (by kernel_rfl) (by kernel_rfl) (by kernel_rfl) (by rfl) (by first | assumption | decide +kernel) (by decide +kernel) ⟨rfl, rfl, rfl, rfl, rfl, by decide +kernel⟩ ?hw ?hc
  case hw => w_witness2
  case hc =>
    refine Mn.walkG (l := PySem.Challenge.rw_sourceforms_k73_errors_of_powers) (n := 63) (k := 4 * 30 + 3 + 1) (x := K73d.argx.arg) (CX := fun w => L2.CX (PySem.Challenge.rw_sourceforms_k73_errors_of_powers).prog w) rfl (by decide) (by kernel_rfl) ⟨⟨rfl, by decide, by decide⟩, rfl⟩ ?F ?hCX
    case F =>
      intro w mg fa h Y G hmg0
      obtain ⟨K, KX, S⟩ := Y
      have hmg : mg ("law" : PySem.Str) = some (.ref fa) := by
        have e : (HandSHeadRun.topDef (OpenLaw.row PySem.Challenge.rw_sourceforms_k73_errors_of_powers).prog K73d.lawTop).name = ("law" : PySem.Str) := by kernel_rfl
        rw [← e]
        exact hmg0
      exact ⟨K, KX, Mn.law_at (l := K73d.ld) (li := K73d.lawIx) (D := 30) (dl := K73d.dl) (x := K73d.argx) KX G S hmg (by kernel_rfl) rfl (by kernel_rfl) (by kernel_rfl) (by kernel_rfl) (by kernel_rfl) (by kernel_rfl) K73d.lawRun⟩
    case hCX =>
      intro w H s e s' ⟨_, _, _, _, _, _, _, _, _, _, _, _, z⟩
      exact z
end
