import PyProof.Rows.All
import Wide.All
import OpenK.AllK
import Wide.FinOn
import KE.KExcSuper
import KE.KSuper
import HandS.Base
import HandS.Call
import HandS.Exc
import HandS.ExcInit
import HandS.ExcCtx
import HandS.Defaults
import HandS.Words
import HandS.ExcField
import HandS.HeadHook1
import HandS.HeadHook2
import HandS.HeadHook4
import HandS.ForMost
import HandS.TryOnly
import HandS.TryMany
import HandS.ExcOwn
import HandS.WordsExc
import HandS.Wide
import HandS.TupAny
import HandS.TupLe
import HandS.IsInst
import HandS.More
import HandS.SortInts
import HandS.RaiseMore
import PyProof.Rows.RuleB_bool
import HandS.Style
import HandS.Rev
import HandS.Zip
import HandS.Iter
import HandS.Comp
import PyProof.Draws
import KE.GoesMore
import PyProof.SliceList
import HandS.ExcIs
import KE.KExcIs
import HandS.HotCalls
import HandS.HeadWalk
import HandS.Head0
import HandS.Head1
import HandS.Head2
import HandS.HeadEnd
import HandS.EndBits
import HandS.NamedTupSort
import PySem.Challenge.RW_wayskept_k06_whole_states_of_rows_go_on
set_option Elab.async false
set_option linter.all false
set_option maxRecDepth 100000
set_option maxHeartbeats 4000000
/-! Dx1: an own exception, made: its __init__ says super().__init__(a text), then stores its one argument. -/
namespace Dx
open PySem PySem.Spec PyProof.Rows L2

/-- the body of such an __init__ -/
def sxBody (text fld self par : Str) (p0 p1 p2 p3 p4 p5 p6 p7 p8 p9 : Pos) (k : Nat) : List Stmt :=
  [.Expr (.Call (.Attribute (.Call (.Name "super" p0) [] [] p1) "__init__" p2) [.Constant (.str text) k p3] [] p4) p5, .Assign [.Attribute (.Name self p6) fld p7] (.Name par p8) p9]
/-- what K says of the class at C and its __init__ at fI -/
structure SxC (P : Program) (K : PySem.W.Frag) (C fI : Addr) (fld : Str) : Prop where
  cls : OexC K C
  ini : PySem.W.findIn K (.ref C) "__init__" = some (some (.ref fI))
  tyI : PySem.W.typeIn K (.ref fI) = some (.type "function")
  fn : ∃ (oc : Value) (od : Option Addr) (osl : Array (Option Value)) (qual : Str) (params : Arguments) (scope : Scope) (dV kV doc pm ct : Value) (an : Option Addr) (cda cc : Addr) (text self par : Str) (p0 p1 p2 p3 p4 p5 p6 p7 p8 p9 : Pos) (k : Nat) (ar : Arg)
      (ccl : Value) (cdd : Option Addr) (ccs : Array (Option Value)) (vs : Array Value) (file : Str) (tf : Tok) (cl : Value) (cld : Option Addr) (csl : Array (Option Value)),
    K.lookup fI = some ⟨oc, od, .func (PySem.W.ksFn "__init__" qual params (sxBody text fld self par p0 p1 p2 p3 p4 p5 p6 p7 p8 p9 k) scope dV kV doc pm an (.ref cda) ct cc), osl⟩ ∧
    PySem.W.codeIn K (.ref cda) qual = true ∧ K.lookup cda = some ⟨ccl, cdd, .fields vs, ccs⟩ ∧ vs[2]? = some (.str file tf) ∧ ((P.main.file : Str) == file) = true ∧
    K.lookup cc = some ⟨cl, cld, .cell (some (.ref C)), csl⟩ ∧
    (params.posonlyargs ++ params.args).head? = some ar ∧ ar.arg = self ∧ self ≠ par ∧ (self == ("__debug__" : Str)) = false ∧ (par == ("__debug__" : Str)) = false ∧
    scope.kind = .function ∧ scope.isCoroutine = false ∧ scope.isGenerator = false ∧ (∀ x ∈ scope.names, x.2 ≠ .cell) ∧
    scope.names.lookup self = some .local ∧ scope.names.lookup par = some .local ∧ scope.names.lookup ("super" : Str) = some .globalImplicit ∧ scope.names.lookup ("__class__" : Str) = some .free ∧ (p2.endLine == p4.line) = true ∧
    ∀ a b : Value, bindArgs (PySem.W.ksFn "__init__" qual params (sxBody text fld self par p0 p1 p2 p3 p4 p5 p6 p7 p8 p9 k) scope dV kV doc pm an (.ref cda) ct cc) ⟨[a, b], []⟩ = pure [(self, a), (par, b)]
  sup : PySem.W.ks_superIn K C C "__init__" = some (some (.builtin "ValueError.__init__"))
  opq : PySem.W.nsIn K cStatics "thirdparty.any" = some none
  sub : PySem.W.subIn K (.ref C) (.type "ValueError") = some true
  mro : PySem.W.mroIn K C (.ref C) = some true
  nof : PySem.W.findIn K (.ref C) fld = some none
  top : (P.main.scope.names.lookup ("super" : Str)).isSome = false

theorem init_run {P : Program} {w : World} {K : PySem.W.Frag} {mg : Str → Option Value} {base : Heap} {C fI : Addr} {fld : Str} {A : Around} {hp : Heap} {g : Array GenState} {d : Drawn} {tk : Nat} {os : OsState} {e t0 : Addr} {u : Value} {R : Result → Shared → Prop}
    (M : Mod K mg base) (bk : ∀ b o, base.get? b = some o → hp.get? b = some o) (S : SxC P K C fI fld) (hs : mg "super" = none) (hroom : A.depth < recursionLimit) (he : hp.get? e = some (PySem.HandSPX.excO C t0)) (hsz : hp.objs.size ≤ e + 1) (hbe : base.get? e = none)
    (hR : ∀ h' tk' dx t1, (∀ b o, b ≠ e → hp.get? b = some o → h'.get? b = some o) → hp.objs.size ≤ dx → dx ≠ e → h'.get? e = some ({ cls := .ref C, dict := some dx, data := .fields #[.ref t1, .none, .none, .none, .bool false, .none] } : Obj) →
      h'.Ns1 dx (fun y => if y = fld then some u else none) → R (.ok (.ret .none)) ⟨h', g, d, tk', os⟩) :
    codeAny (model P w) A (.call (.ref fI) ⟨[.ref e, u], []⟩) R ⟨hp, g, d, tk, os⟩ := by
  obtain ⟨oc, od, osl, qual, params, scope, dV, kV, doc, pm, ct, an, cda, cc, text, self, par, p0, p1, p2, p3, p4, p5, p6, p7, p8, p9, k, ar, ccl, cdd, ccs, vs, file, tf, cl, cld, csl, hfn, hcd, hcda, hvs, hfile, hcc, har, hself, hsp, hds, hdp, hk, hco, hgen, hcell, hls, hlp, hlsup, hlc, hline, hbind⟩ := S.fn
  obtain ⟨nm, q, N, bs, bm, sn, sub, ab, col, dd, k0, k1, k2, k3, k5, hC, hbm⟩ := S.cls.cls
  have KX : K.In hp := M.kin.keeps bk
  have lim : hp.NoLimit := M.nolimit.keeps bk
  have hcl : PySem.W.clsIn K C = some { name := nm, bases := bs, mro := .ref C :: bm, ns := N, qualname := q, hasDict := true, slotNames := sn, subclasses := sub, abstract := ab, collection := col, hasDel := false } := by unfold PySem.W.clsIn; rw [hC] <;> rfl
  have hsup : PySem.W.alongIn K "__init__" (((Value.ref C :: bm).dropWhile (· != .ref C)).drop 1) = some (some (.builtin "ValueError.__init__")) := by
    have := S.sup
    unfold PySem.W.ks_superIn at this
    rw [hcl] at this
    exact this
  refine PySem.ks_codeAny_call_defAt (fd := PySem.W.ksFn "__init__" qual params (sxBody text fld self par p0 p1 p2 p3 p4 p5 p6 p7 p8 p9 k) scope dV kV doc pm an (.ref cda) ct cc) (body := sxBody text fld self par p0 p1 p2 p3 p4 p5 p6 p7 p8 p9 k) (binds := [(self, .ref e), (par, u)])
    hroom (KX _ _ hfn) rfl lim (PySem.W.codeRec_of KX hcd) rfl (BindsTo.of_eq (hbind _ _)) hcell (fun x hx => ?_) (fun h₀ hns hk₀ => ?_) hco hgen hk
  · rcases List.mem_cons.mp hx with h | h
    · rw [h]; exact hls
    · rcases List.mem_cons.mp h with h | h
      · rw [h]; exact hlp
      · exact nomatch h
  have K0 : K.In h₀ := KX.keeps hk₀
  have e0 := hk₀ _ _ he
  obtain ⟨mb, hb1, hb2⟩ := M.blt
  have bk0 : ∀ b o, base.get? b = some o → h₀.get? b = some o := fun b o z => hk₀ _ _ (bk _ _ z)
  have lself : ((List.reverse [(self, Value.ref e), (par, u)]).lookup self : Option Value) = some (.ref e) := by
    show List.lookup self [(par, u), (self, Value.ref e)] = _
    rw [List.lookup_cons, show (self == par) = false from by simpa using hsp, List.lookup_cons_self]
  have lpar : ((List.reverse [(self, Value.ref e), (par, u)]).lookup par : Option Value) = some u := by
    show List.lookup par [(par, u), (self, Value.ref e)] = _
    rw [List.lookup_cons_self]
  generalize henv : callEnv (PySem.W.ksFn "__init__" qual params (sxBody text fld self par p0 p1 p2 p3 p4 p5 p6 p7 p8 p9 k) scope dV kV doc pm an (.ref cda) ct cc) hp.objs.size fI = env
  have hscope : env.scope = scope := by rw [← henv]; rfl
  have hlocs : env.locals = hp.objs.size := by rw [← henv]; rfl
  have hev : eval (.Call (.Attribute (.Call (.Name "super" p0) [] [] p1) "__init__" p2) [.Constant (.str text) k p3] [] p4) env = (do
      let ov ← attributeBase (.Call (.Name "super" p0) [] [] p1) "__init__" env (eval (.Call (.Name "super" p0) [] [] p1) env)
      standAt p2.atName
      let (f, first) ← holding [ov] (getMethod ov "__init__" (do return (← importBound (.Call (.Name "super" p0) [] [] p1) env).getD true))
      callWith p4 f first (backTo p4 (starEach [.Constant (.str text) k p3] env)) []) := by
    show (do
      let ov ← attributeBase (.Call (.Name "super" p0) [] [] p1) "__init__" env (eval (.Call (.Name "super" p0) [] [] p1) env)
      standAt p2.atName
      methodCall (.Call (.Name "super" p0) [] [] p1) "__init__" p2 p4 env ov 1 (backTo p4 (starEach [.Constant (.str text) k p3] env)) []) = _
    have hf : methodCallForm 1 (backTo p4 (starEach [.Constant (.str text) k p3] env)) [] = true := rfl
    have hpos : methodCallPos true (.Call (.Name "super" p0) [] [] p1) env p2 p4 = pure p4 := by
      unfold methodCallPos
      rw [hline]
      rfl
    unfold methodCall
    simp only [hf, hpos, pure_bind]
    rfl
  have hint : interactive env = false := by simp [interactive, hscope, hk]
  have hsk : env.scope.kind = .function := by rw [hscope]; exact hk
  have kSup : env.kindOf "super" = some .globalImplicit := by unfold Env.kindOf; rw [hscope]; exact hlsup
  have kCls : env.kindOf "__class__" = some .free := by unfold Env.kindOf; rw [hscope]; exact hlc
  have kSelf : env.kindOf self = some .local := by unfold Env.kindOf; rw [hscope]; exact hls
  have kPar : env.kindOf par = some .local := by unfold Env.kindOf; rw [hscope]; exact hlp
  have hg1 : env.globals = mainGlobals := by rw [← henv]; rfl
  have hb3 : env.builtins = builtinsNs := by rw [← henv]; rfl
  have hcells : env.cells.lookup ("__class__" : Str) = some cc := by rw [← henv]; rfl
  have hfunc : env.func = some fI := by rw [← henv]; rfl
  have hcode : env.code = .ref cda := by rw [← henv]; rfl
  have hns : h₀.Ns env.locals (fun x => (List.reverse [(self, Value.ref e), (par, u)]).lookup x) := by rw [hlocs]; exact hns
  refine PySem.ks_wpAt_execs_cons (PySem.ks_wpAt_Expr_any (PySem.ks_wpAt_MethodCall (PySem.ks_wpAt_super_base kSup kCls (by decide) hfunc (K0 _ _ hfn) rfl har hcode (K0 _ _ hcda) rfl hvs hfile S.top ?_) hev) hint rfl)
  refine PySem.W.ks_loadName_global hsk kSup (Calls.loadGlobal_builtin (mg := mg) (mb := mb) (by rw [hg1]; exact M.glob.keeps bk0) hs (by rw [hb3]; exact hb1.keeps bk0) ((hb2 _ (by decide)).trans PyProof.Rows.Boot.«super») ⟨rfl, ?_⟩)
  refine wpAny_loadName_free hsk kCls hcells ⟨_, K0 _ _ hcc, rfl⟩ ?_
  rw [hself]
  refine wpAny_loadName_local hsk kSelf hns lself ?_
  have hC0 := K0 _ _ hC
  refine PySem.ks_wpAny_isType_cls hC0 rfl ⟨rfl, ?_⟩
  refine PySem.ks_wpAny_call_super hC0 rfl e0 rfl (fun c z => ?_) (PySem.W.looks_mroIn K0 S.mro) (fun h1 hso k1 => ?_)
  · cases z
  have K1 : K.In h1 := K0.keeps k1
  have e1 := k1 _ _ e0
  have eC : e ≠ C := fun z => by
    have := KX _ _ hC
    rw [← z, he] at this
    cases this
  have Iat : PySem.W.InstAt h1 e (PySem.HandSPX.excO C t0) C none := ⟨e1, rfl, rfl, trivial⟩
  refine PySem.W.kxs_getMethod PySem.W.kxs_ValueError hso (PySem.W.looks_opaque K1 S.opq) (l₀ := Value.ref C :: bm) (fun A Q E s k q => wpAny_bind ((PySem.W.looks_clsIn K1 hcl) A _ E s k (wpAny_pure q))) rfl K1 hsup (Iat.type.andThen (PySem.W.looks_subIn K1 S.sub)) eC (by decide) ?_
  -- the call of the bound __init__
  have k2 : ∀ b o, h1.get? b = some o → (h1.push (PySem.W.kxs_mw "ValueError.__init__" e)).get? b = some o := fun b o z => Heap.get?_push_of_some _ z
  have hu : (h1.push (PySem.W.kxs_mw "ValueError.__init__" e)).get? h1.objs.size = some (PySem.W.kxs_mw "ValueError.__init__" e) := Heap.get?_push_at rfl rfl
  have e2 := k2 _ _ e1
  have C2 := K1.keeps k2 _ _ hC
  refine PySem.W.kxs_callWith (i := "ValueError.__init__") (x := e) rfl (Calls.evalArgs_plain (Calls.spliced_cons (Calls.Constant_str (k := k) (pos := p3) (Calls.spliced_nil ⟨hu, ?_⟩))))
  show wpAny _ _ (call (.ref h1.objs.size) [Value.str text _]) _ _ _
  refine wpAny_call (codeAny_of_tree ?_)
  show wpAny _ _ (callAny (.ref h1.objs.size) ⟨[Value.str text _], []⟩) _ _ _
  simp only [callAny]
  refine wpAny_bind (wpAny_load hu ?_)
  simp only [PySem.W.kxs_mw, show (Value.type "method-wrapper" == Value.type "method" || Value.type "method-wrapper" == Value.type "builtin_function_or_method" || Value.type "method-wrapper" == Value.type "method-wrapper") = true by decide, if_true]
  refine PySem.W.KFB.if_so (by decide) ?_
  have FB := PySem.F.excBase_ValueError
  refine wpAny_bind (PySem.W.check_bound_init FB.toExcCallFacts C2 e2 rfl ?_)
  refine wpAny_bind (wpAny_pure (wpAny_pure ?_))
  refine ⟨plainId_quiet FB.init.plain _, codeAny_builtin FB.initEntry ?_⟩
  refine PySem.W.exc_init_tree (cls := .ref C) (t0 := t0) (dv := none) (c2 := .none) (c3 := .none) (b4 := .bool false) e2 (by show 1 ≤ sizeLine; decide) fun h3 k3 e3 _ => ?_
  -- the store
  have kk : ∀ b o, b ≠ e → hp.get? b = some o → h3.get? b = some o := fun b o nb z => k3 b o nb (k2 _ _ (k1 _ _ (hk₀ _ _ z)))
  have K3 : K.In h3 := fun b o z => by
    have hb := M.kin b o z
    exact kk b o (fun y => by rw [y, hbe] at hb; cases hb) (bk _ _ hb)
  have hns3 : h3.Ns env.locals (fun x => (List.reverse [(self, Value.ref e), (par, u)]).lookup x) := by
    obtain ⟨oL, es, ep, hL, r⟩ := hns
    have nL : env.locals ≠ e := fun z => by
      rw [z, e0] at hL
      cases hL
      cases r.1
    exact ⟨oL, es, ep, k3 _ _ nL (k2 _ _ (k1 _ _ hL)), r⟩
  refine PySem.ks_wpAt_execs_cons (PySem.ks_wpAt_Assign_Attr (wpAt_of_wpAny (wpAny_Name (wpAny_loadName_local hsk kPar hns3 lpar ?_) hdp)) rfl)
  refine wpAny_Name (wpAny_loadName_local hsk kSelf hns3 lself ?_) hds
  refine PySem.W.set_plain K3 (ox := PySem.HandSPX.excO C (h1.push (PySem.W.kxs_mw "ValueError.__init__" e)).objs.size) (od := none) ⟨e3, rfl, rfl, trivial⟩ S.cls.sa ?_
  refine PySem.HandSPX.exc_osa K3 e3 hcl (show PySem.HandSPX.refsVE (.ref C :: bm) = true from hbm) rfl S.nof (fun h' tk' dx k4 dn dne hx hn => ?_)
  refine wpAt_of_wpAny (wpAny_execs_nil ?_)
  have hlt : e < h3.objs.size := Heap.lt_size e3
  exact hR h' tk' dx _ (fun b o nb z => k4 b o nb (kk b o nb z)) (Nat.le_trans (show hp.objs.size ≤ h3.objs.size from Nat.le_trans hsz (Nat.succ_le_of_lt hlt)) dn) dne hx hn
end Dx

set_option Elab.async false
set_option linter.all false
set_option maxRecDepth 100000
set_option maxHeartbeats 4000000
/-! Dx2: C(e), C an own exception class whose __init__ says super().__init__(a text) and stores its argument. -/
namespace Dx
open PySem PySem.Spec PyProof.Rows L2
def tMkS (C : Addr) (fld : Str) (ta : TA) : L2.St → Hp → XK → Prop := fun σ H Q => ta σ H fun vs H1 => ∃ v : V, vs = [v] ∧ ∀ dx, H1 dx = none → Q (.ref C) (some dx) (upd H1 dx (.xd [(fld, v)]))
section
variable {X : Cx} {e : Expr} {es : List Expr} {ta : TA} {p pos : Pos}
theorem pmk_sx {x : Str} {C fI : Addr} {fld : Str} {k : Nat} (S : SxC X.prog X.K C fI fld) (hs : X.mg "super" = none) (hr : Room k X.A) (hg : Gl X x) (hm : X.mg x = some (.ref C)) (ha : PA X (e :: es) ta)
    (hdb : (x == ("__debug__" : Str)) = false) (he : starEach (e :: es) X.env = (false, eval e X.env) :: starEach es X.env) (hpl : (backTo pos (starEach es X.env)).any (·.1) = false) :
    L2N.PMk X (.Call (.Name x p) (e :: es) [] pos) (tMkS C fld ta) := by
  intro pins s σ H Q I h
  obtain ⟨nm, q, N, bs, bm, sn, sub, ab, col, dd, k0, k1, k2, k3, k5, hC, hbm⟩ := S.cls.cls
  refine wpAny_Call_Name_kw (ld_glob I hg hm ?_ hdb)
  refine PySem.W.callWith_K (h₀ := X.base) I.ok.mod.kin S.cls.kC (thn (ha.run pos pins s σ H _ I h) fun us s1 ⟨vs, H1, I1, r1, v, ev, q1⟩ => ⟨I1.kIn, ?_⟩) he hpl
  show wpAny _ _ (call (.ref C) us) _ _ _
  obtain ⟨hp, g, dr, tk, os⟩ := s1
  subst ev
  obtain ⟨u, rfl, ru⟩ : ∃ u, us = [u] ∧ RelV v u := by
    cases r1 with
    | cons a b => cases b; exact ⟨_, rfl, a⟩
  have kk : ∀ b o, hp.get? b = some o → ((hp.push (PySem.W.kdv_tup [u])).push (PySem.HandSPX.excO C hp.objs.size)).get? b = some o := fun b o e => Heap.get?_push_of_some _ (Heap.get?_push_of_some _ e)
  have hget : ((hp.push (PySem.W.kdv_tup [u])).push (PySem.HandSPX.excO C hp.objs.size)).get? (hp.objs.size + 1) = some (PySem.HandSPX.excO C hp.objs.size) := by heap_get
  have nha : ∀ {b : Addr} {o : Obj}, hp.get? b = some o → b ≠ hp.objs.size + 1 := fun {b o} z => Nat.ne_of_lt (Nat.lt_succ_of_lt (Heap.lt_size z))
  have hdep : (X.A.under (.builtin "type.__call__" ⟨Value.ref C :: [u], []⟩)).depth < recursionLimit := by
    rw [make_depth]
    have := hr.dp
    omega
  refine wpAny_call (PySem.HandSPX.call_own F.excBase_ValueError (fun Y => PySem.HandSPX.refsVE_contains Y bm hbm) (I1.kIn _ _ hC) (PySem.W.looks_findIn I1.kIn S.ini) (fun self => PySem.W.bind_fn I1.kIn self S.tyI) (by show 1 ≤ sizeLine; decide)
    (init_run (base := X.base) (mg := X.mg) I1.ok.mod (fun b o z => kk _ _ (I1.bk b o z)) S hs hdep hget (by rw [Heap.size_push, Heap.size_push]; exact Nat.le_refl _) ?_ fun h' tk' dx t1 k' hdx hne hx hn => ?_))
  · cases z : X.base.get? (hp.objs.size + 1) with
    | none => rfl
    | some o => exact absurd (Heap.lt_size (I1.bk _ _ z)) (by intro y; exact absurd (Nat.lt_trans (Nat.lt_succ_self _) y) (Nat.lt_irrefl _))
  · refine ⟨rfl, ?_⟩
    obtain ⟨G, g1, g2⟩ := restrict h' fun b => decide (b ≠ hp.objs.size + 1)
    have gk : ∀ b, b ≠ hp.objs.size + 1 → G.get? b = h'.get? b := fun b hb => g1 b (decide_eq_true hb)
    have ge : G.get? (hp.objs.size + 1) = none := g2 _ (by simp)
    have hsz : hp.objs.size ≤ dx := Nat.le_trans (by rw [Heap.size_push, Heap.size_push]; omega) hdx
    have J : Inv X pins σ (upd H1 dx (.xd [(fld, v)])) ⟨G, g, dr, tk', os⟩ := I1.laid (t' := tk') (a := dx) (o := .xd [(fld, v)]) (h' := G) (fun b o z => (gk b (nha z)).trans (k' b o (nha z) (kk b o z))) hsz
      ⟨_, hn.at fun o y => (gk dx hne).trans y, relO_put (fs := []) ru fun g => True.intro⟩
    have hn1 : H1 (hp.objs.size + 1) = none := I1.hok.fresh (Nat.le_succ _)
    refine ⟨hp.objs.size + 1, _, _, ⟨G, g, dr, tk', os⟩, _, .ref C, some dx, rfl, J, fun b o z => ?_, ge, hx, ⟨rfl, rfl, fun vs z => by cases z; rfl⟩, rfl, rfl, by rw [upd_ne (Ne.symm hne)]; exact hn1, rfl, J.bare, raises_own S.cls.exC S.cls.tyC, q1 dx (I1.hok.fresh hsz)⟩
    by_cases hba : b = hp.objs.size + 1
    · rw [hba, ge] at z; cases z
    · exact (gk b hba).symm.trans z
end
end Dx

set_option Elab.async false
set_option linter.all false
set_option maxRecDepth 100000
set_option maxHeartbeats 4000000
/-! Dx3: what the head tells of own exception classes: a Hook of defs, facts, exception classes. -/
namespace Dx
open PySem PySem.Spec PyProof.Rows L2 He

/-- an exception class of the text: its name, its __init__ (a def), what that does -/
structure XD where
  x : Str
  fld : Str
  self : Str
  par : Str
  text : Str
  qual : Str
  init : Stmt
def clsBody : Stmt → List Stmt
  | .ClassDef _ _ _ b _ _ _ _ _ _ _ => b
  | _ => []
def fIof (K : PySem.W.Frag) (x : Str) : Addr := ma K (ga K x) "__init__"
def clsB (K : PySem.W.Frag) (C : Addr) : Bool := match K.lookup C with
  | some ⟨.type "type", _, .cls cd, sl⟩ => (match cd.mro with
      | .ref c :: bm => decide (c = C) && PySem.HandSPX.refsVE bm
      | _ => false) && (cd.hasDict && !cd.hasDel) && (match sl.toList with
      | [_, _, _, _, some (.builtin n), _] => decide (n = "ValueError.__new__")
      | _ => false)
  | _ => false
def codB (K : PySem.W.Frag) (file : Str) (C : Addr) (fd : FuncData) : Bool := (match fd.closure with
    | [(n, cc)] => decide (n = "__class__") && (match K.lookup cc with
        | some ⟨_, _, .cell (some (.ref d)), _⟩ => decide (d = C)
        | _ => false)
    | _ => false) && (PySem.W.codeIn K fd.code fd.qualname && (match fd.code with
    | .ref cda => (match K.lookup cda with
        | some ⟨_, _, .fields vs, _⟩ => (match (vs[2]? : Option Value) with
            | some (Value.str f _) => file == f
            | _ => false)
        | _ => false)
    | _ => false))
def xB (file : Str) (K : PySem.W.Frag) (d : XD) : Bool :=
  clsB K (ga K d.x) && (eqO (PySem.W.findIn K (.ref (ga K d.x)) "__setattr__") (some (some (.builtin "object.__setattr__"))) && (decide (PySem.W.subIn K (.ref (ga K d.x)) (.type "BaseException") = some true) && (decide (PySem.W.typeIn K (.ref (ga K d.x)) = some (.type "type")) && (PySem.W.keepIn K (.ref (ga K d.x)) &&
    (eqO (PySem.W.findIn K (.ref (ga K d.x)) "__init__") (some (some (.ref (fIof K d.x)))) && (decide (PySem.W.typeIn K (.ref (fIof K d.x)) = some (.type "function")) &&
    ((match K.lookup (fIof K d.x) with
      | some ⟨_, _, .func fd, _⟩ => codB K file (ga K d.x) fd
      | _ => false) && (eqO (PySem.W.ks_superIn K (ga K d.x) (ga K d.x) "__init__") (some (some (.builtin "ValueError.__init__"))) && (eqO (PySem.W.nsIn K cStatics "thirdparty.any") (some none) &&
    (decide (PySem.W.subIn K (.ref (ga K d.x)) (.type "ValueError") = some true) && (decide (PySem.W.mroIn K (ga K d.x) (.ref (ga K d.x)) = some true) && (eqO (PySem.W.findIn K (.ref (ga K d.x)) d.fld) (some none) && (xfB K (ga K d.x) && eqO (PySem.W.nsIn K mainGlobals d.x) (some (some (.ref (ga K d.x)))))))))))))))))
abbrev XV : Type := Option (Str × Str × Arguments × FuncBody × Scope × Addr × Value × Addr)
def xObs (K : PySem.W.Frag) (d : XD) : XV := match K.lookup (fIof K d.x) with
  | some ⟨_, _, .func fd, _⟩ => some (fd.name, fd.qualname, fd.params, fd.body, fd.scope, fd.globals, fd.defaults, fd.builtins)
  | _ => none
def XD.val (d : XD) : XV := some ("__init__", d.qual, defArgs d.init, .stmts (defBody d.init), defScope d.init, mainGlobals, .none, builtinsNs)
/-- what is so of the text itself -/
structure XS (P : Program) (d : XD) : Prop where
  shape : ∃ (p0 p1 p2 p3 p4 p5 p6 p7 p8 p9 : Pos) (k : Nat), defBody d.init = sxBody d.text d.fld d.self d.par p0 p1 p2 p3 p4 p5 p6 p7 p8 p9 k ∧ (p2.endLine == p4.line) = true
  head : ∃ ar : Arg, ((defArgs d.init).posonlyargs ++ (defArgs d.init).args).head? = some ar ∧ ar.arg = d.self
  ne : d.self ≠ d.par
  dbs : (d.self == ("__debug__" : Str)) = false
  dbp : (d.par == ("__debug__" : Str)) = false
  kd : (defScope d.init).kind = .function
  co : (defScope d.init).isCoroutine = false
  gen : (defScope d.init).isGenerator = false
  cel : ∀ x ∈ (defScope d.init).names, x.2 ≠ .cell
  ls : (defScope d.init).names.lookup d.self = some .local
  lp : (defScope d.init).names.lookup d.par = some .local
  lsup : (defScope d.init).names.lookup ("super" : Str) = some .globalImplicit
  lc : (defScope d.init).names.lookup ("__class__" : Str) = some .free
  bind : ∀ (kV doc pm ct cdv : Value) (an : Option Addr) (cc : Addr) (a b : Value), bindArgs (PySem.W.ksFn "__init__" d.qual (defArgs d.init) (defBody d.init) (defScope d.init) .none kV doc pm an cdv ct cc) ⟨[a, b], []⟩ = pure [(d.self, a), (d.par, b)]
  top : (P.main.scope.names.lookup ("super" : Str)).isSome = false
section
variable {P : Program} {K : PySem.W.Frag} {d : XD}
theorem clsB_ok {C : Addr} (h : clsB K C = true) : ∃ nm q N bs bm sn sub ab col dd k0 k1 k2 k3 k5, K.lookup C = some (excClassObj nm q C N bs bm true sn sub ab col dd k0 k1 k2 k3 k5 "ValueError.__new__") ∧ PySem.HandSPX.refsVE bm = true := by
  unfold clsB at h
  split at h
  · rename_i dd cd sl e
    obtain ⟨h, h3⟩ := ba h
    obtain ⟨h1, h2⟩ := ba h
    obtain ⟨h4, h5⟩ := ba h2
    obtain ⟨n1, n2, n3, n4, n5, n6, n7, n8, n9, n10, n11⟩ := cd
    obtain ⟨l⟩ := sl
    dsimp only at h1 h3 h4 h5
    split at h1
    · rename_i c bm
      obtain ⟨h6, h7⟩ := ba h1
      have h6 := of_decide_eq_true h6
      subst h6
      split at h3
      · rename_i k0 k1 k2 k3 n k5
        have h3 := of_decide_eq_true h3
        subst h3
        have h5 : n11 = false := by simpa using h5
        subst h4; subst h5
        exact ⟨_, _, _, _, _, _, _, _, _, _, _, _, _, _, _, e, h7⟩
      · cases h3
    · cases h1
  · cases h
theorem sx_of (e : xObs K d = d.val) (c : xB P.main.file K d = true) (S : XS P d) : SxC P K (ga K d.x) (fIof K d.x) d.fld ∧ XfC K (ga K d.x) ∧ PySem.W.nsIn K mainGlobals d.x = some (some (.ref (ga K d.x))) := by
  unfold xB at c
  obtain ⟨c1, c⟩ := ba c
  obtain ⟨c2, c⟩ := ba c
  obtain ⟨c3, c⟩ := ba c
  obtain ⟨c4, c⟩ := ba c
  obtain ⟨c5, c⟩ := ba c
  obtain ⟨c6, c⟩ := ba c
  obtain ⟨c7, c⟩ := ba c
  obtain ⟨c8, c⟩ := ba c
  obtain ⟨c9, c⟩ := ba c
  obtain ⟨c10, c⟩ := ba c
  obtain ⟨c11, c⟩ := ba c
  obtain ⟨c12, c⟩ := ba c
  obtain ⟨c13, c⟩ := ba c
  obtain ⟨c14, c15⟩ := ba c
  refine ⟨⟨⟨clsB_ok c1, eqO_ok c2, of_decide_eq_true c3, of_decide_eq_true c4, c5⟩, eqO_ok c6, of_decide_eq_true c7, ?_, eqO_ok c9, eqO_ok c10, of_decide_eq_true c11, of_decide_eq_true c12, eqO_ok c13, S.top⟩, xfB_ok c14, eqO_ok c15⟩
  unfold xObs XD.val at e
  split at c8
  · rename_i oc od fd osl hk
    rw [hk] at e
    dsimp only at e
    unfold codB at c8
    obtain ⟨b1, b2⟩ := ba c8
    obtain ⟨b3, b4⟩ := ba b2
    obtain ⟨n1, n2, n3, n4, n5, n6, n7, n8, n9, n10, n11, n12, n13, n14, n15⟩ := fd
    simp only [Option.some.injEq, Prod.mk.injEq] at e
    obtain ⟨h1, h2, h3, h4, h5, h6, h8, h9⟩ := e
    subst h1 h2 h3 h4 h5 h6 h8 h9
    dsimp only at b1 b3 b4
    split at b1
    · rename_i n cc
      obtain ⟨b5, b6⟩ := ba b1
      have b5 := of_decide_eq_true b5
      subst b5
      split at b6
      · rename_i cl cld dC csl hcc
        have b6 := of_decide_eq_true b6
        subst b6
        split at b4
        · rename_i cda
          split at b4
          · rename_i ccl cdd vs ccs hcd
            split at b4
            · rename_i f tf hv
              obtain ⟨p0, p1, p2, p3, p4, p5, p6, p7, p8, p9, k, hb, hl⟩ := S.shape
              obtain ⟨ar, ha, has⟩ := S.head
              refine ⟨oc, od, osl, d.qual, defArgs d.init, defScope d.init, .none, n9, n10, n11, n14, n12, cda, cc, d.text, d.self, d.par, p0, p1, p2, p3, p4, p5, p6, p7, p8, p9, k, ar, ccl, cdd, ccs, vs, f, tf, cl, cld, csl, ?_, b3, hcd, hv, b4, hcc, ha, has, S.ne, S.dbs, S.dbp, S.kd, S.co, S.gen, S.cel, S.ls, S.lp, S.lsup, S.lc, hl, fun a b => ?_⟩
              · rw [← hb]; exact hk
              · rw [← hb]; exact S.bind _ _ _ _ _ _ _ a b
            · cases b4
          · cases b4
        · cases b4
      · cases b6
    · cases b1
  · cases c8
end
end Dx

set_option Elab.async false
set_option linter.all false
set_option maxRecDepth 100000
set_option maxHeartbeats 2000000
/-! Dn1: values, slots, what represents them in the abstract heap. -/
namespace Dn
open PySem L2

/-- a value -/
inductive D where
  | non | bl (b : Bool) | int (i : Int) | str (s : Str)
  | tup (ds : List D) | lst (ds : List D) | ml (ds : List D)
  /-- a list from outside -/
  | kl (ds : List D)
  | ins (c : Str) (ns : List Str) (ds : List D)
  /-- the exception that a suite holds: at a, of the class c, its dict at dx -/
  | exo (a dx : Nat) (c : Str) (ns : List Str) (ds : List D)
  /-- an instance that stands still in this frame (a view) -/
  | vi (c : Str) (ns : List Str) (ds : List D)
  /-- a tuple that owns what it holds -/
  | mt (ds : List D)
  /-- what stands at a, nothing more told -/
  | rf (a : Nat)

/-- the addresses that stand still in this frame -/
class ZS where
  z : Addr → Prop
variable [ZS]

def D.pure : D → Bool
  | .ml _ => false
  | .ins _ _ _ => false
  | .mt _ => false
  | _ => true

/-- a list that stands still -/
def FzL (H : Hp) (a : Addr) (vs : List V) : Prop := ∃ o, H a = some (.frz o (.lst vs))
/-- .. or is an object of the module, or stands still in this frame -/
def KlL (K : PySem.W.Frag) (H : Hp) (a : Addr) (vs : List V) : Prop :=
  ((∃ o, H a = some (.frz o (.lst vs))) ∨ (ZS.z a ∧ H a = some (.lst vs))) ∨
    ∃ (o : Obj) (its : Array Value) (n : Nat), K.lookup a = some o ∧ o.cls = .type "list" ∧ o.dict = none ∧ o.data = .seq its n ∧ its.size ≤ sizeLine ∧ Vals vs its.toList
theorem FzL.sq {K : PySem.W.Frag} {H : Hp} {a : Addr} {vs : List V} (h : FzL H a vs) : SqL K H a vs := by
  obtain ⟨o, h⟩ := h
  exact .inl (.inr ⟨o, h⟩)
theorem KlL.sq {K : PySem.W.Frag} {H : Hp} {a : Addr} {vs : List V} (h : KlL K H a vs) : SqL K H a vs := by
  rcases h with (⟨o, h⟩ | h) | h
  · exact .inl (.inr ⟨o, h⟩)
  · exact SqL.of h.2
  · exact .inr h

mutual
def Lay (K : PySem.W.Frag) (H : Hp) : D → V → List Addr → Prop
  | .non, v, A => v = .non ∧ A = []
  | .bl b, v, A => v = .bl b ∧ A = []
  | .int i, v, A => v = .int i ∧ A = []
  | .str s, v, A => v = .str s ∧ A = []
  | .tup ds, v, A => A = [] ∧ ∃ a vs, v = .ref a ∧ SqT K H a vs ∧ LayL K H ds vs []
  | .lst ds, v, A => A = [] ∧ ∃ a vs, v = .ref a ∧ FzL H a vs ∧ LayL K H ds vs []
  | .kl ds, v, A => A = [] ∧ ∃ a vs, v = .ref a ∧ KlL K H a vs ∧ LayL K H ds vs []
  | .ml ds, v, A => ∃ a vs B, v = .ref a ∧ H a = some (.lst vs) ∧ LayL K H ds vs B ∧ A = a :: B
  | .exo a dx c ns ds, v, A => A = [] ∧ v = .ref a ∧ ∃ vs, H dx = some (.xd (ns.zip vs)) ∧ ns.length = ds.length ∧ LayL K H ds vs []
  | .ins c ns ds, v, A => ∃ a dx vs B, v = .ref a ∧ H a = some (.ins (He.ga K c) dx (ns.zip vs)) ∧ ns.length = ds.length ∧ LayL K H ds vs B ∧ A = a :: B
  | .vi c ns ds, v, A => A = [] ∧ ∃ a dx vs, v = .ref a ∧ ZS.z a ∧ H a = some (.ins (He.ga K c) dx (ns.zip vs)) ∧ ns.length = ds.length ∧ LayL K H ds vs []
  | .mt ds, v, A => ∃ a vs, v = .ref a ∧ SqT K H a vs ∧ LayL K H ds vs A
  | .rf a, v, A => v = .ref a ∧ A = []
def LayL (K : PySem.W.Frag) (H : Hp) : List D → List V → List Addr → Prop
  | [], vs, A => vs = [] ∧ A = []
  | d :: ds, vs, A => ∃ v ws A1 A2, vs = v :: ws ∧ A = A1 ++ A2 ∧ Lay K H d v A1 ∧ LayL K H ds ws A2
end

section
variable {K : PySem.W.Frag} {H H' : Hp}
/-- tuples and still lists stay -/
structure Kp (H H' : Hp) : Prop where
  tups : ∀ b xs, H b = some (.tup xs) → H' b = some (.tup xs)
  frzs : ∀ b o u, H b = some (.frz o u) → H' b = some (.frz o u)
  xds : ∀ b fs, H b = some (.xd fs) → H' b = some (.xd fs)
  stl : ∀ b, ZS.z b → ∀ o, H b = some o → H' b = some o
theorem Kp.refl (H : Hp) : Kp H H := ⟨fun _ _ h => h, fun _ _ _ h => h, fun _ _ h => h, fun _ _ _ h => h⟩
theorem Kp.trans {H1 H2 H3 : Hp} (a : Kp H1 H2) (b : Kp H2 H3) : Kp H1 H3 := ⟨fun c xs h => b.tups _ _ (a.tups _ _ h), fun c o u h => b.frzs _ _ _ (a.frzs _ _ _ h), fun c fs h => b.xds _ _ (a.xds _ _ h), fun c z o h => b.stl c z o (a.stl c z o h)⟩
theorem Kp.sqT {a : Addr} {vs : List V} (k : Kp H H') (h : SqT K H a vs) : SqT K H' a vs := by
  rcases h with (h | ⟨o, h⟩) | h
  · exact .inl (.inl (k.tups _ _ h))
  · exact .inl (.inr ⟨o, k.frzs _ _ _ h⟩)
  · exact .inr h
theorem Kp.fzL {a : Addr} {vs : List V} (k : Kp H H') (h : FzL H a vs) : FzL H' a vs := let ⟨o, h⟩ := h; ⟨o, k.frzs _ _ _ h⟩
theorem Kp.klL {a : Addr} {vs : List V} (k : Kp H H') (h : KlL K H a vs) : KlL K H' a vs := by
  rcases h with (⟨o, h⟩ | h) | h
  · exact .inl (.inl ⟨o, k.frzs _ _ _ h⟩)
  · exact .inl (.inr ⟨h.1, k.stl a h.1 _ h.2⟩)
  · exact .inr h
mutual
theorem Lay.step (k : Kp H H') : ∀ (d : D) (v : V) (A : List Addr), (∀ a ∈ A, ∀ o, H a = some o → H' a = some o) → Lay K H d v A → Lay K H' d v A
  | .non, _, _, _, h => h
  | .bl _, _, _, _, h => h
  | .int _, _, _, _, h => h
  | .str _, _, _, _, h => h
  | .tup ds, v, A, _, h => by
    obtain ⟨e, a, vs, e1, h1, h2⟩ := h
    exact ⟨e, a, vs, e1, k.sqT h1, LayL.step k ds vs [] (fun a ha => nomatch ha) h2⟩
  | .lst ds, v, A, _, h => by
    obtain ⟨e, a, vs, e1, h1, h2⟩ := h
    exact ⟨e, a, vs, e1, k.fzL h1, LayL.step k ds vs [] (fun a ha => nomatch ha) h2⟩
  | .kl ds, v, A, _, h => by
    obtain ⟨e, a, vs, e1, h1, h2⟩ := h
    exact ⟨e, a, vs, e1, k.klL h1, LayL.step k ds vs [] (fun a ha => nomatch ha) h2⟩
  | .ml ds, v, A, ha, h => by
    obtain ⟨a, vs, B, e1, h1, h2, e2⟩ := h
    subst e2
    exact ⟨a, vs, B, e1, ha a List.mem_cons_self _ h1, LayL.step k ds vs B (fun b hb => ha b (List.mem_cons_of_mem _ hb)) h2, rfl⟩
  | .exo a dx c ns ds, v, A, ha, h => by
    obtain ⟨e, e1, vs, h1, hl, h2⟩ := h
    exact ⟨e, e1, vs, k.xds _ _ h1, hl, LayL.step k ds vs [] (fun a ha => nomatch ha) h2⟩
  | .ins c ns ds, v, A, ha, h => by
    obtain ⟨a, dx, vs, B, e1, h1, hl, h2, e2⟩ := h
    subst e2
    exact ⟨a, dx, vs, B, e1, ha a List.mem_cons_self _ h1, hl, LayL.step k ds vs B (fun b hb => ha b (List.mem_cons_of_mem _ hb)) h2, rfl⟩
  | .vi c ns ds, v, A, ha, h => by
    obtain ⟨e, a, dx, vs, e1, hz, h1, hl, h2⟩ := h
    exact ⟨e, a, dx, vs, e1, hz, k.stl a hz _ h1, hl, LayL.step k ds vs [] (fun a ha => nomatch ha) h2⟩
  | .mt ds, v, A, ha, h => by
    obtain ⟨a, vs, e1, h1, h2⟩ := h
    exact ⟨a, vs, e1, k.sqT h1, LayL.step k ds vs A ha h2⟩
  | .rf _, _, _, _, h => h
theorem LayL.step (k : Kp H H') : ∀ (ds : List D) (vs : List V) (A : List Addr), (∀ a ∈ A, ∀ o, H a = some o → H' a = some o) → LayL K H ds vs A → LayL K H' ds vs A
  | [], _, _, _, h => h
  | d :: ds, vs, A, ha, h => by
    obtain ⟨v, ws, A1, A2, e1, e2, h1, h2⟩ := h
    subst e2
    exact ⟨v, ws, A1, A2, e1, rfl, Lay.step k d v A1 (fun b hb => ha b (List.mem_append_left _ hb)) h1, LayL.step k ds ws A2 (fun b hb => ha b (List.mem_append_right _ hb)) h2⟩
end
theorem Lay.emp {d : D} {v : V} {A : List Addr} (h : Lay K H d v A) (p : d.pure = true) : A = [] := by
  cases d with
  | non => exact h.2
  | bl => exact h.2
  | int => exact h.2
  | str => exact h.2
  | tup => exact h.1
  | lst => exact h.1
  | kl => exact h.1
  | ml => cases p
  | ins => cases p
  | exo => exact h.1
  | vi => exact h.1
  | mt => cases p
  | rf => exact h.2
/-- a pure value stays -/
theorem Lay.keep {d : D} {v : V} (k : Kp H H') (h : Lay K H d v []) : Lay K H' d v [] := Lay.step k d v [] (fun _ z => nomatch z) h
theorem LayL.keep {ds : List D} {vs : List V} (k : Kp H H') (h : LayL K H ds vs []) : LayL K H' ds vs [] := LayL.step k ds vs [] (fun _ z => nomatch z) h
/-- what is owned stands and is no tuple -/
def Mu (o : HO) : Prop := (∃ xs, o = .lst xs) ∨ ∃ C dx fs, o = .ins C dx fs
mutual
theorem Lay.mu : ∀ (d : D) (v : V) (A : List Addr), Lay K H d v A → ∀ a ∈ A, ∃ o, H a = some o ∧ Mu o
  | .non, _, _, h => fun a ha => by rw [h.2] at ha; exact nomatch ha
  | .bl _, _, _, h => fun a ha => by rw [h.2] at ha; exact nomatch ha
  | .int _, _, _, h => fun a ha => by rw [h.2] at ha; exact nomatch ha
  | .str _, _, _, h => fun a ha => by rw [h.2] at ha; exact nomatch ha
  | .tup _, _, _, h => fun a ha => by rw [h.1] at ha; exact nomatch ha
  | .lst _, _, _, h => fun a ha => by rw [h.1] at ha; exact nomatch ha
  | .kl _, _, _, h => fun a ha => by rw [h.1] at ha; exact nomatch ha
  | .ml ds, v, A, h => fun b hb => by
    obtain ⟨a, vs, B, e1, h1, h2, e2⟩ := h
    subst e2
    rcases List.mem_cons.mp hb with e | hb
    · subst e; exact ⟨_, h1, .inl ⟨_, rfl⟩⟩
    · exact LayL.mu ds vs B h2 b hb
  | .exo _ _ _ _ _, _, _, h => fun a ha => by rw [h.1] at ha; exact nomatch ha
  | .ins c ns ds, v, A, h => fun b hb => by
    obtain ⟨a, dx, vs, B, e1, h1, hl, h2, e2⟩ := h
    subst e2
    rcases List.mem_cons.mp hb with e | hb
    · subst e; exact ⟨_, h1, .inr ⟨_, _, _, rfl⟩⟩
    · exact LayL.mu ds vs B h2 b hb
  | .vi _ _ _, _, _, h => fun a ha => by rw [h.1] at ha; exact nomatch ha
  | .mt ds, v, A, h => fun b hb => by
    obtain ⟨a, vs, e1, h1, h2⟩ := h
    exact LayL.mu ds vs A h2 b hb
  | .rf _, _, _, h => fun a ha => by rw [h.2] at ha; exact nomatch ha
theorem LayL.mu : ∀ (ds : List D) (vs : List V) (A : List Addr), LayL K H ds vs A → ∀ a ∈ A, ∃ o, H a = some o ∧ Mu o
  | [], _, _, h => fun a ha => by rw [h.2] at ha; exact nomatch ha
  | d :: ds, vs, A, h => fun b hb => by
    obtain ⟨v, ws, A1, A2, e1, e2, h1, h2⟩ := h
    subst e2
    rcases List.mem_append.mp hb with hb | hb
    · exact Lay.mu d v A1 h1 b hb
    · exact LayL.mu ds ws A2 h2 b hb
end
theorem LayL.len : ∀ {ds : List D} {vs : List V} {A : List Addr}, LayL K H ds vs A → vs.length = ds.length
  | [], _, _, h => by rw [h.1]; rfl
  | d :: ds, vs, A, h => by
    obtain ⟨v, ws, A1, A2, e1, e2, h1, h2⟩ := h
    subst e1
    rw [List.length_cons, List.length_cons, LayL.len h2]
theorem LayL.cons {d : D} {v : V} {ds : List D} {vs : List V} {A B : List Addr} (h1 : Lay K H d v A) (h2 : LayL K H ds vs B) : LayL K H (d :: ds) (v :: vs) (A ++ B) := ⟨v, vs, A, B, rfl, rfl, h1, h2⟩
theorem LayL.cons0 {d : D} {v : V} {ds : List D} {vs : List V} (h1 : Lay K H d v []) (h2 : LayL K H ds vs []) : LayL K H (d :: ds) (v :: vs) [] := ⟨v, vs, [], [], rfl, rfl, h1, h2⟩
theorem LayL.nil : LayL K H [] [] [] := ⟨rfl, rfl⟩
theorem LayL.uncons0 {d : D} {ds : List D} {vs : List V} (h : LayL K H (d :: ds) vs []) : ∃ v ws, vs = v :: ws ∧ Lay K H d v [] ∧ LayL K H ds ws [] := by
  obtain ⟨v, ws, A1, A2, e1, e2, h1, h2⟩ := h
  obtain ⟨z1, z2⟩ := List.append_eq_nil_iff.mp e2.symm
  subst z1; subst z2
  exact ⟨v, ws, e1, h1, h2⟩
theorem LayL.get0 : ∀ {ds : List D} {vs : List V} {i : Nat} {d : D}, LayL K H ds vs [] → ds[i]? = some d → ∃ v, vs[i]? = some v ∧ Lay K H d v []
  | [], _, _, _, _, e => by simp at e
  | d :: ds, vs, 0, d', h, e => by
    obtain ⟨v, ws, e1, h1, h2⟩ := h.uncons0
    subst e1
    simp at e; subst e
    exact ⟨v, rfl, h1⟩
  | d :: ds, vs, i + 1, d', h, e => by
    obtain ⟨v, ws, e1, h1, h2⟩ := h.uncons0
    subst e1
    obtain ⟨u, q1, q2⟩ := LayL.get0 (i := i) (d := d') h2 (by simpa using e)
    exact ⟨u, by simpa using q1, q2⟩
theorem LayL.getV0 : ∀ {ds : List D} {vs : List V} {i : Nat} {v : V}, LayL K H ds vs [] → vs[i]? = some v → ∃ d, ds[i]? = some d ∧ Lay K H d v []
  | [], _, i, _, h, e => by rw [h.1] at e; simp at e
  | d :: ds, vs, 0, v', h, e => by
    obtain ⟨v, ws, e1, h1, h2⟩ := h.uncons0
    subst e1
    simp at e; subst e
    exact ⟨d, rfl, h1⟩
  | d :: ds, vs, i + 1, v', h, e => by
    obtain ⟨v, ws, e1, h1, h2⟩ := h.uncons0
    subst e1
    obtain ⟨u, q1, q2⟩ := LayL.getV0 (i := i) (v := v') h2 (by simpa using e)
    exact ⟨u, by simpa using q1, q2⟩
theorem LayL.append0 : ∀ {ds es : List D} {vs ws : List V}, LayL K H ds vs [] → LayL K H es ws [] → LayL K H (ds ++ es) (vs ++ ws) []
  | [], es, vs, ws, h, g => by rw [h.1]; exact g
  | d :: ds, es, vs, ws, h, g => by
    obtain ⟨v, us, e1, h1, h2⟩ := h.uncons0
    subst e1
    exact LayL.cons0 h1 (LayL.append0 h2 g)
theorem LayL.take0 : ∀ {ds : List D} {vs : List V} (n : Nat), LayL K H ds vs [] → LayL K H (ds.take n) (vs.take n) []
  | _, _, 0, _ => LayL.nil
  | [], vs, n + 1, h => by rw [h.1]; exact LayL.nil
  | d :: ds, vs, n + 1, h => by
    obtain ⟨v, us, e1, h1, h2⟩ := h.uncons0
    subst e1
    exact LayL.cons0 h1 (LayL.take0 n h2)
theorem LayL.drop0 : ∀ {ds : List D} {vs : List V} (n : Nat), LayL K H ds vs [] → LayL K H (ds.drop n) (vs.drop n) []
  | ds, vs, 0, h => h
  | [], vs, n + 1, h => by rw [h.1]; exact LayL.nil
  | d :: ds, vs, n + 1, h => by
    obtain ⟨v, us, e1, h1, h2⟩ := h.uncons0
    subst e1
    exact LayL.drop0 n h2
theorem LayL.set0 : ∀ {ds : List D} {vs : List V} {d : D} {v : V} (n : Nat), LayL K H ds vs [] → Lay K H d v [] → LayL K H (ds.set n d) (vs.set n v) []
  | [], vs, _, _, n, h, _ => by rw [h.1]; exact LayL.nil
  | d :: ds, vs, d', v', 0, h, g => by
    obtain ⟨v, us, e1, h1, h2⟩ := h.uncons0
    subst e1
    exact LayL.cons0 g h2
  | d :: ds, vs, d', v', n + 1, h, g => by
    obtain ⟨v, us, e1, h1, h2⟩ := h.uncons0
    subst e1
    exact LayL.cons0 h1 (LayL.set0 n h2 g)
end

/-! ### slots -/
abbrev Sl := List (Option D)
def Own (Af : Nat → List Addr) (b : Addr) : Prop := ∃ i, b ∈ Af i

structure Rep (K : PySem.W.Frag) (H : Hp) (ss : Sl) (σ : St) (Af : Nat → List Addr) : Prop where
  len : ss.length = σ.length
  lay : ∀ i d, ss[i]? = some (some d) → ∃ v, σ[i]? = some (some v) ∧ Lay K H d v (Af i)
  emp : ∀ i, (∀ d, ss[i]? ≠ some (some d)) → Af i = []
  nd : ∀ i, (Af i).Nodup
  dis : ∀ i j a, a ∈ Af i → a ∈ Af j → i = j
  nz : ∀ b, Own Af b → ¬ ZS.z b
  zl : ∀ b, ZS.z b → H b ≠ none

/-- from H (what may change: F) to H' (what is owned there: F') -/
structure Stp (H : Hp) (F : Addr → Prop) (H' : Hp) (F' : Addr → Prop) : Prop where
  kp : Kp H H'
  keep : ∀ b o, ¬ F b → H b = some o → H' b = some o
  new : ∀ b, F' b → F b ∨ H b = none
theorem Stp.refl {H : Hp} {F : Addr → Prop} : Stp H F H F := ⟨Kp.refl H, fun _ _ _ h => h, fun _ h => .inl h⟩
theorem Stp.sub {H H' : Hp} {F F' G : Addr → Prop} (s : Stp H F H' F') (h : ∀ b, G b → F' b) : Stp H F H' G := ⟨s.kp, s.keep, fun b g => s.new b (h b g)⟩
theorem Stp.trans {H H1 H2 : Hp} {F F1 G1 F2 : Addr → Prop} (a : Stp H F H1 F1) (b : Stp H1 G1 H2 F2) (hs : ∀ x, G1 x → F1 x) : Stp H F H2 F2 := by
  refine ⟨a.kp.trans b.kp, fun x o nf h => ?_, fun x hx => ?_⟩
  · have h1 := a.keep x o nf h
    refine b.keep x o (fun g => ?_) h1
    rcases a.new x (hs x g) with q | q
    · exact nf q
    · rw [h] at q; cases q
  · rcases b.new x hx with q | q
    · exact a.new x (hs x q)
    · cases e : H x with
      | none => exact .inr rfl
      | some o =>
        refine .inl ((Classical.em (F x)).resolve_right fun nf => ?_)
        have := a.keep x o nf e
        rw [q] at this; cases this
/-- what is not owned and stands is not owned behind, and stays -/
theorem Stp.out {H H' : Hp} {F F' : Addr → Prop} (s : Stp H F H' F') {b : Addr} {o : HO} (n : ¬ F b) (h : H b = some o) : ¬ F' b := fun f => by
  rcases s.new b f with q | q
  · exact n q
  · rw [h] at q; cases q
/-- a temporary's value behind a step -/
theorem Stp.lay {K : PySem.W.Frag} {H H' : Hp} {F F' : Addr → Prop} (s : Stp H F H' F') {d : D} {v : V} {B : List Addr} (h : Lay K H d v B) (n : ∀ a ∈ B, ¬ F a) : Lay K H' d v B :=
  Lay.step s.kp d v B (fun a ha o e => s.keep a o (n a ha) e) h
theorem Stp.layL {K : PySem.W.Frag} {H H' : Hp} {F F' : Addr → Prop} (s : Stp H F H' F') {ds : List D} {vs : List V} {B : List Addr} (h : LayL K H ds vs B) (n : ∀ a ∈ B, ¬ F a) : LayL K H' ds vs B :=
  LayL.step s.kp ds vs B (fun a ha o e => s.keep a o (n a ha) e) h
/-- a new object -/
theorem Stp.laid {H : Hp} {F : Addr → Prop} {p : Addr} {o : HO} (h : H p = none) : Stp H F (upd H p o) (fun b => F b ∨ b = p) := by
  have ne : ∀ {b : Addr} {u : HO}, H b = some u → b ≠ p := fun e z => by rw [z, h] at e; cases e
  refine ⟨⟨fun b xs e => by rw [upd_ne (ne e)]; exact e, fun b o u e => by rw [upd_ne (ne e)]; exact e, fun b fs e => by rw [upd_ne (ne e)]; exact e, fun b _ o e => by rw [upd_ne (ne e)]; exact e⟩, fun b u _ e => by rw [upd_ne (ne e)]; exact e, fun b hb => ?_⟩
  rcases hb with hb | rfl
  · exact .inl hb
  · exact .inr h
/-- an owned object written -/
theorem Stp.wrote {H : Hp} {F : Addr → Prop} {p : Addr} {o u : HO} (f : F p) (h : H p = some u) (m : Mu u) (nz : ¬ ZS.z p) : Stp H F (upd H p o) F := by
  have ne : ∀ {b : Addr} {w : HO}, H b = some w → ¬ Mu w → b ≠ p := fun e n z => by
    subst z
    rw [h] at e; cases e
    exact n m
  refine ⟨⟨fun b xs e => ?_, fun b o u e => ?_, fun b fs e => ?_, fun b z o e => by rw [upd_ne (fun q : b = p => nz (by rw [← q]; exact z))]; exact e⟩, fun b w nf e => ?_, fun b hb => .inl hb⟩
  · rw [upd_ne (ne e (by rintro (⟨_, z⟩ | ⟨_, _, _, z⟩) <;> cases z))]; exact e
  · rw [upd_ne (ne e (by rintro (⟨_, z⟩ | ⟨_, _, _, z⟩) <;> cases z))]; exact e
  · rw [upd_ne (ne e (by rintro (⟨_, z⟩ | ⟨_, _, _, z⟩) <;> cases z))]; exact e
  · rw [upd_ne (fun z => by subst z; exact nf f)]; exact e

section
variable {K : PySem.W.Frag} {H H' : Hp} {ss : Sl} {σ : St} {Af : Nat → List Addr}
theorem Rep.there (r : Rep K H ss σ Af) {b : Addr} (h : Own Af b) : ∃ o, H b = some o ∧ Mu o := by
  obtain ⟨i, hi⟩ := h
  by_cases e : ∃ d, ss[i]? = some (some d)
  · obtain ⟨d, e⟩ := e
    obtain ⟨v, _, hl⟩ := r.lay i d e
    exact Lay.mu d v _ hl b hi
  · rw [r.emp i (fun d z => e ⟨d, z⟩)] at hi
    exact nomatch hi
theorem Rep.zlK (r : Rep K H ss σ Af) (k : Kp H H') : ∀ b, ZS.z b → H' b ≠ none := fun b z e => by
  cases q : H b with
  | none => exact r.zl b z q
  | some o => rw [k.stl b z o q] at e; cases e
/-- what a step lets be owned is not still -/
theorem Rep.nzS {F' : Addr → Prop} (r : Rep K H ss σ Af) (s : Stp H (Own Af) H' F') {b : Addr} (f : F' b) : ¬ ZS.z b := fun z => by
  rcases s.new b f with q | q
  · exact r.nz b q z
  · exact r.zl b z q
/-- the slots behind a step of others -/
theorem Rep.step {F F' : Addr → Prop} (r : Rep K H ss σ Af) (s : Stp H F H' F') (n : ∀ b, Own Af b → ¬ F b) : Rep K H' ss σ Af :=
  ⟨r.len, fun i d e => let ⟨v, h1, h2⟩ := r.lay i d e; ⟨v, h1, s.lay h2 fun a ha => n a ⟨i, ha⟩⟩, r.emp, r.nd, r.dis, r.nz, r.zlK s.kp⟩
/-- one slot's value anew -/
def put (Af : Nat → List Addr) (i : Nat) (B : List Addr) : Nat → List Addr := fun j => if j = i then B else Af j
theorem put_self {i : Nat} {B : List Addr} : put Af i B i = B := if_pos rfl
theorem put_ne {i j : Nat} {B : List Addr} (h : j ≠ i) : put Af i B j = Af j := if_neg h
theorem own_put {i : Nat} {B : List Addr} {b : Addr} (h : Own (put Af i B) b) : Own Af b ∨ b ∈ B := by
  obtain ⟨j, hj⟩ := h
  by_cases e : j = i
  · subst e; rw [put_self] at hj; exact .inr hj
  · rw [put_ne e] at hj; exact .inl ⟨j, hj⟩
theorem put_own_ne {i : Nat} {B : List Addr} {b : Addr} (h : Own Af b) (n : b ∉ Af i) : Own (put Af i B) b := by
  obtain ⟨j, hj⟩ := h
  refine ⟨j, ?_⟩
  have z : j ≠ i := fun e => by subst e; exact n hj
  rw [put_ne z]
  exact hj
/-- a value into a slot -/
theorem Rep.set {i : Nat} {d : D} {v : V} {B : List Addr} (r : Rep K H ss σ Af) (h : Lay K H d v B) (hn : B.Nodup) (ha : ∀ a ∈ B, ¬ Own Af a ∨ a ∈ Af i) (hz : ∀ a ∈ B, ¬ ZS.z a) (hi : i < ss.length) : Rep K H (ss.set i (some d)) (σ.set i (some v)) (put Af i B) := by
  have hi2 : i < σ.length := r.len ▸ hi
  refine ⟨by rw [List.length_set, List.length_set]; exact r.len, fun j d' e => ?_, fun j e => ?_, fun j => ?_, fun j k a h1 h2 => ?_, fun b hb => (own_put hb).elim (r.nz b) (hz b), r.zl⟩
  · by_cases z : j = i
    · subst z
      rw [List.getElem?_set_self hi] at e
      cases e
      exact ⟨v, List.getElem?_set_self hi2, by rw [put_self]; exact h⟩
    · rw [List.getElem?_set_ne (Ne.symm z)] at e
      rw [List.getElem?_set_ne (Ne.symm z), put_ne z]
      exact r.lay j d' e
  · by_cases z : j = i
    · subst z
      exact absurd (List.getElem?_set_self hi) (e d)
    · rw [put_ne z]
      exact r.emp j fun d' q => e d' (by rw [List.getElem?_set_ne (Ne.symm z)]; exact q)
  · by_cases z : j = i
    · subst z; rw [put_self]; exact hn
    · rw [put_ne z]; exact r.nd j
  · by_cases z1 : j = i
    · by_cases z2 : k = i
      · rw [z1, z2]
      · subst z1
        rw [put_self] at h1; rw [put_ne z2] at h2
        rcases ha a h1 with q | q
        · exact absurd ⟨k, h2⟩ q
        · exact r.dis _ _ a q h2
    · by_cases z2 : k = i
      · subst z2
        rw [put_self] at h2; rw [put_ne z1] at h1
        rcases ha a h2 with q | q
        · exact absurd ⟨j, h1⟩ q
        · exact r.dis _ _ a h1 q
      · rw [put_ne z1] at h1; rw [put_ne z2] at h2
        exact r.dis j k a h1 h2
/-- a slot forgotten -/
theorem Rep.clear (i : Nat) (r : Rep K H ss σ Af) : Rep K H (ss.set i none) σ (put Af i []) := by
  refine ⟨by rw [List.length_set]; exact r.len, fun j d' e => ?_, fun j e => ?_, fun j => ?_, fun j k a h1 h2 => ?_, fun b hb => (own_put hb).elim (r.nz b) (fun z => nomatch z), r.zl⟩
  · by_cases z : j = i
    · subst z
      by_cases hj : j < ss.length
      · rw [List.getElem?_set_self hj] at e; cases e
      · rw [List.getElem?_eq_none (by simpa using hj)] at e; cases e
    · rw [List.getElem?_set_ne (Ne.symm z)] at e
      rw [put_ne z]
      exact r.lay j d' e
  · by_cases z : j = i
    · subst z; rw [put_self]
    · rw [put_ne z]
      exact r.emp j fun d' q => e d' (by rw [List.getElem?_set_ne (Ne.symm z)]; exact q)
  · by_cases z : j = i
    · subst z; rw [put_self]; exact List.nodup_nil
    · rw [put_ne z]; exact r.nd j
  · by_cases z1 : j = i
    · subst z1; rw [put_self] at h1; exact nomatch h1
    · by_cases z2 : k = i
      · subst z2; rw [put_self] at h2; exact nomatch h2
      · rw [put_ne z1] at h1; rw [put_ne z2] at h2
        exact r.dis j k a h1 h2
theorem own_clear {i : Nat} {b : Addr} (h : Own (put Af i []) b) : Own Af b := (own_put h).elim id fun z => nomatch z
end
end Dn

set_option Elab.async false
set_option linter.all false
set_option maxRecDepth 100000
set_option maxHeartbeats 2000000
/-! Dn2: results, what is wanted of a result, binding. -/
namespace Dn
open PySem L2
variable [ZS]

structure Ex where
  c : Str
  ns : List Str
  ds : List D

inductive R (α : Type) where
  | ok (a : α) (ss : Sl) | exc (e : Ex) (ss : Sl) | err
def R.bind {α β : Type} (r : R α) (k : α → Sl → R β) : R β := match r with
  | .ok a ss => k a ss
  | .exc e ss => .exc e ss
  | .err => .err
@[simp] theorem R.bind_ok {α β : Type} (a : α) (ss : Sl) (k : α → Sl → R β) : (R.ok a ss).bind k = k a ss := rfl
@[simp] theorem R.bind_exc {α β : Type} (e : Ex) (ss : Sl) (k : α → Sl → R β) : (R.exc e ss : R α).bind k = .exc e ss := rfl
@[simp] theorem R.bind_err {α β : Type} (k : α → Sl → R β) : (R.err : R α).bind k = .err := rfl

/-- a value at hand: a fresh one, or what stands in a slot -/
inductive Vx where
  | val (d : D) | plc (i : Nat)
def Vx.get (x : Vx) (ss : Sl) : Option D := match x with
  | .val d => some d
  | .plc i => match ss[i]? with
    | some (some d) => some d
    | _ => none
theorem get_plc {i : Nat} {ss : Sl} {d : D} (g : (Vx.plc i).get ss = some d) : ss[i]? = some (some d) := by
  have g' : (match ss[i]? with
    | some (some d) => some d
    | _ => none) = some d := g
  cases e : ss[i]? with
  | none => rw [e] at g'; cases g'
  | some o =>
    cases o with
    | none => rw [e] at g'; cases g'
    | some d' => rw [e] at g'; cases g'; rfl
abbrev EV := Sl → R Vx
abbrev AV := Sl → R (List Vx)
abbrev TV := Sl → R Bool

def LayX (K : PySem.W.Frag) (σ : St) (H : Hp) : Vx → V → List Addr → Prop
  | .val d, v, B => Lay K H d v B
  | .plc i, v, B => B = [] ∧ σ[i]? = some (some v)
def LayXL (K : PySem.W.Frag) (σ : St) (H : Hp) : List Vx → List V → List Addr → Prop
  | [], vs, B => vs = [] ∧ B = []
  | x :: xs, vs, B => ∃ v ws B1 B2, vs = v :: ws ∧ B = B1 ++ B2 ∧ LayX K σ H x v B1 ∧ LayXL K σ H xs ws B2
def LayB (_ : Hp) (b b' : Bool) (B : List Addr) : Prop := b' = b ∧ B = []

def ExL (K : PySem.W.Frag) (H : Hp) (e : Ex) (cls : Value) (d : Option Addr) : Prop :=
  cls = .ref (He.ga K e.c) ∧ (e.ns = [] ∨ ∃ a vs, d = some a ∧ H a = some (.xd (e.ns.zip vs)) ∧ e.ns.length = e.ds.length ∧ LayL K H e.ds vs [])

section
variable {α β γ δ : Type}
def Got (LX : Hp → α → β → List Addr → Prop) (K : PySem.W.Frag) (σ : St) (H0 : Hp) (F0 : Addr → Prop) (H : Hp) (ss : Sl) (x : α) (v : β) : Prop :=
  ∃ Af B, Rep K H ss σ Af ∧ LX H x v B ∧ B.Nodup ∧ (∀ a ∈ B, ¬ Own Af a) ∧ Stp H0 F0 H (fun b => Own Af b ∨ b ∈ B)
def GotE (K : PySem.W.Frag) (σ : St) (H0 : Hp) (F0 : Addr → Prop) (H : Hp) (ss : Sl) (e : Ex) (cls : Value) (d : Option Addr) : Prop :=
  ∃ Af, Rep K H ss σ Af ∧ ExL K H e cls d ∧ Stp H0 F0 H (Own Af)
/-- what is wanted of a result, from the base H0, F0 -/
def Wn (LX : Hp → α → β → List Addr → Prop) (K : PySem.W.Frag) (W : WX) (σ : St) (H0 : Hp) (F0 : Addr → Prop) (r : R α) (Q : β → Hp → Prop) : Prop := match r with
  | .ok x ss => ∀ v H, Got LX K σ H0 F0 H ss x v → Q v H
  | .exc e ss => ∀ cls d H, GotE K σ H0 F0 H ss e cls d → W cls d σ H
  | .err => False
/-- the reading of a denotation -/
def tD (LX : Hp → α → β → List Addr → Prop) (K : PySem.W.Frag) (W : WX) (f : Sl → R α) : St → Hp → (β → Hp → Prop) → Prop := fun σ H Q =>
  ∃ ss Af, Rep K H ss σ Af ∧ Wn LX K W σ H (Own Af) (f ss) Q

variable {LX : Hp → α → β → List Addr → Prop} {LY : Hp → γ → δ → List Addr → Prop} {K : PySem.W.Frag} {W : WX} {σ : St} {H H0 H1 : Hp} {F0 : Addr → Prop} {ss : Sl} {Af : Nat → List Addr}
theorem Wn.rebase {Af1 : Nat → List Addr} {r : R α} {Q : β → Hp → Prop} {F1 : Addr → Prop} (h : Wn LX K W σ H0 F0 r Q) (s : Stp H0 F0 H1 F1) (hs : ∀ b, Own Af1 b → F1 b) : Wn LX K W σ H1 (Own Af1) r Q := by
  cases r with
  | err => exact h
  | exc e s1 => exact fun cls d H2 ⟨Af2, r2, x2, st2⟩ => h cls d H2 ⟨Af2, r2, x2, s.trans st2 hs⟩
  | ok x s1 => exact fun v H2 ⟨Af2, B2, r2, l2, n2, d2, st2⟩ => h v H2 ⟨Af2, B2, r2, l2, n2, d2, s.trans st2 hs⟩
/-- THE BINDING -/
theorem bindW {f : Sl → R α} {k : α → Sl → R γ} {Q : δ → Hp → Prop} {Q' : β → Hp → Prop} (r : Rep K H ss σ Af) (h : Wn LY K W σ H (Own Af) ((f ss).bind k) Q)
    (hk : ∀ x v H1 ss1 Af1 B1, f ss = .ok x ss1 → Rep K H1 ss1 σ Af1 → LX H1 x v B1 → B1.Nodup → (∀ a ∈ B1, ¬ Own Af1 a) → Stp H (Own Af) H1 (fun b => Own Af1 b ∨ b ∈ B1) → Wn LY K W σ H1 (Own Af1) (k x ss1) Q → Q' v H1) :
    tD LX K W f σ H Q' := by
  refine ⟨ss, Af, r, ?_⟩
  cases e : f ss with
  | err => rw [e] at h; exact h
  | exc x s1 => rw [e] at h; exact h
  | ok x s1 =>
    rw [e] at h
    intro v H1 ⟨Af1, B1, r1, l1, n1, d1, st1⟩
    exact hk x v H1 s1 Af1 B1 e r1 l1 n1 d1 st1 (Wn.rebase h st1 fun b hb => .inl hb)
/-- .. from an elder base, kept -/
theorem bindB {f : Sl → R α} {k : α → Sl → R γ} {Q : δ → Hp → Prop} {Q' : β → Hp → Prop} {F1 : Addr → Prop} (s0 : Stp H0 F0 H F1) (hs : ∀ b, Own Af b → F1 b) (r : Rep K H ss σ Af) (h : Wn LY K W σ H0 F0 ((f ss).bind k) Q)
    (hk : ∀ x v H1 ss1 Af1 B1, f ss = .ok x ss1 → Rep K H1 ss1 σ Af1 → LX H1 x v B1 → B1.Nodup → (∀ a ∈ B1, ¬ Own Af1 a) → Stp H (Own Af) H1 (fun b => Own Af1 b ∨ b ∈ B1) → Wn LY K W σ H0 F0 (k x ss1) Q → Q' v H1) :
    tD LX K W f σ H Q' := by
  refine ⟨ss, Af, r, ?_⟩
  cases e : f ss with
  | err => rw [e] at h; exact h
  | exc x s1 =>
    rw [e] at h
    exact Wn.rebase (r := R.exc x s1) h s0 hs
  | ok x s1 =>
    rw [e] at h
    intro v H1 ⟨Af1, B1, r1, l1, n1, d1, st1⟩
    exact hk x v H1 s1 Af1 B1 e r1 l1 n1 d1 st1 h
/-- a result without a new object -/
theorem Wn.done {x : α} {v : β} {Q : β → Hp → Prop} (r : Rep K H ss σ Af) (h : Wn LX K W σ H (Own Af) (.ok x ss) Q) (l : LX H x v []) : Q v H :=
  h v H ⟨Af, [], r, l, List.nodup_nil, fun a z => (nomatch z), Stp.refl.sub fun b hb => hb.elim id fun z => nomatch z⟩
end

section
variable {K : PySem.W.Frag} {W : WX} {σ : St} {H H' H1 H2 : Hp} {F F' : Addr → Prop} {ss : Sl} {Af : Nat → List Addr} {x : Vx} {v : V} {B : List Addr} {d : D}
abbrev tE (K : PySem.W.Frag) (W : WX) (f : EV) : TE := fun σ H Q => tD (LayX K σ) K W f σ H Q
abbrev tA (K : PySem.W.Frag) (W : WX) (f : AV) : TA := fun σ H Q => tD (LayXL K σ) K W f σ H Q
abbrev tT (K : PySem.W.Frag) (W : WX) (f : TV) : TT := fun σ H Q => tD LayB K W f σ H Q
/-- a temporary behind a step -/
theorem LayX.stay (s : Stp H F H' F') (l : LayX K σ H x v B) (n : ∀ a ∈ B, ¬ F a) : LayX K σ H' x v B := by
  cases x with
  | val d => exact s.lay l n
  | plc i => exact l
theorem LayX.there (l : LayX K σ H x v B) {a : Addr} (h : a ∈ B) : ∃ o, H a = some o ∧ Mu o := by
  cases x with
  | val d => exact Lay.mu d v B l a h
  | plc i => rw [l.1] at h; exact nomatch h
theorem LayX.out (s : Stp H F H' F') (l : LayX K σ H x v B) (n : ∀ a ∈ B, ¬ F a) : ∀ a ∈ B, ¬ F' a := fun a ha =>
  let ⟨_, e, _⟩ := l.there ha
  s.out (n a ha) e
theorem LayXL.stay (s : Stp H F H' F') : ∀ (xs : List Vx) (vs : List V) (B : List Addr), LayXL K σ H xs vs B → (∀ a ∈ B, ¬ F a) → LayXL K σ H' xs vs B
  | [], _, _, l, _ => l
  | x :: xs, vs, B, l, n => by
    obtain ⟨v, ws, B1, B2, e1, e2, l1, l2⟩ := l
    subst e2
    exact ⟨v, ws, B1, B2, e1, rfl, l1.stay s fun a ha => n a (List.mem_append_left _ ha), LayXL.stay s xs ws B2 l2 fun a ha => n a (List.mem_append_right _ ha)⟩
theorem LayXL.there : ∀ (xs : List Vx) (vs : List V) (B : List Addr), LayXL K σ H xs vs B → ∀ a ∈ B, ∃ o, H a = some o ∧ Mu o
  | [], _, _, l, a, ha => by rw [l.2] at ha; exact nomatch ha
  | x :: xs, vs, B, l, a, ha => by
    obtain ⟨v, ws, B1, B2, e1, e2, l1, l2⟩ := l
    subst e2
    rcases List.mem_append.mp ha with q | q
    · exact l1.there q
    · exact LayXL.there xs ws B2 l2 a q
/-- what a value at hand is, to be read -/
theorem LayX.read (r : Rep K H ss σ Af) (l : LayX K σ H x v B) (g : x.get ss = some d) : ∃ A, Lay K H d v A := by
  cases x with
  | val d' => cases g; exact ⟨B, l⟩
  | plc i =>
    obtain ⟨v', q1, q2⟩ := r.lay i d (get_plc g)
    rw [l.2] at q1
    cases q1
    exact ⟨_, q2⟩
end
end Dn

set_option Elab.async false
set_option linter.all false
set_option maxRecDepth 100000
set_option maxHeartbeats 2000000
/-! Dn3: operations on values, and that L2's readings give them. -/
namespace Dn
open PySem L2
variable [ZS]

def flatD : D → Option V
  | .non => some .non
  | .bl b => some (.bl b)
  | .int i => some (.int i)
  | .str s => some (.str s)
  | _ => none
def seqD : D → Option (List D)
  | .tup ds => some ds
  | .lst ds => some ds
  | .ml ds => some ds
  | .kl ds => some ds
  | _ => none
def intsD : List D → Option (List Int)
  | [] => some []
  | .int i :: r => match intsD r with
    | some ns => some (i :: ns)
    | none => none
  | _ => none
def allPure (ds : List D) : Bool := ds.all D.pure
mutual
def toPy : D → Option PyData
  | .non => some .none
  | .bl b => some (.bool b)
  | .int i => some (.int i)
  | .str s => some (.str s)
  | .tup ds => match toPyL ds with
    | some ps => some (.tuple ps)
    | none => none
  | .lst ds => match toPyL ds with
    | some ps => some (.list ps)
    | none => none
  | .ml ds => match toPyL ds with
    | some ps => some (.list ps)
    | none => none
  | .kl ds => match toPyL ds with
    | some ps => some (.list ps)
    | none => none
  | .ins _ _ _ => none
  | .exo _ _ _ _ _ => none
  | .vi _ _ _ => none
  | .mt _ => none
  | .rf _ => none
def toPyL : List D → Option (List PyData)
  | [] => some []
  | d :: ds => match toPy d, toPyL ds with
    | some p, some ps => some (p :: ps)
    | _, _ => none
end

section
variable {K : PySem.W.Frag} {H : Hp}
theorem lay_flat {d : D} {u v : V} {A : List Addr} (f : flatD d = some u) (l : Lay K H d v A) : v = u := by
  cases d with
  | non => cases f; exact l.1
  | bl => cases f; exact l.1
  | int => cases f; exact l.1
  | str => cases f; exact l.1
  | _ => cases f
theorem flat_lay {d : D} {u : V} (f : flatD d = some u) : Lay K H d u [] := by
  cases d with
  | non => cases f; exact ⟨rfl, rfl⟩
  | bl => cases f; exact ⟨rfl, rfl⟩
  | int => cases f; exact ⟨rfl, rfl⟩
  | str => cases f; exact ⟨rfl, rfl⟩
  | _ => cases f
theorem flat_flat {d : D} {u : V} (f : flatD d = some u) : flatV u = true := by
  cases d with
  | non => cases f; rfl
  | bl => cases f; rfl
  | int => cases f; rfl
  | str => cases f; rfl
  | _ => cases f
theorem lay_int {i : Int} {v : V} {A : List Addr} (l : Lay K H (.int i) v A) : v = .int i := l.1
theorem layL_ints : ∀ {ds : List D} {ns : List Int} {vs : List V} {A : List Addr}, intsD ds = some ns → LayL K H ds vs A → vs = ns.map V.int
  | [], ns, vs, A, e, l => by
    cases e
    exact l.1
  | d :: r, ns, vs, A, e, l => by
    obtain ⟨v, ws, A1, A2, e1, e2, l1, l2⟩ := l
    cases d with
    | int i =>
      unfold intsD at e
      cases q : intsD r with
      | none => rw [q] at e; cases e
      | some ms =>
        rw [q] at e
        cases e
        rw [e1, layL_ints q l2, l1.1]
        rfl
    | _ => cases e
theorem layL_pure : ∀ {ds : List D} {vs : List V} {A : List Addr}, allPure ds = true → LayL K H ds vs A → A = []
  | [], vs, A, _, l => l.2
  | d :: r, vs, A, p, l => by
    obtain ⟨v, ws, A1, A2, e1, e2, l1, l2⟩ := l
    have p' : (d.pure && allPure r) = true := p
    obtain ⟨p1, p2⟩ := Bool.and_eq_true_iff.mp p'
    rw [e2, l1.emp p1, layL_pure p2 l2]
    rfl
mutual
theorem toPy_dp : ∀ (d : D) (p : PyData) (v : V) (A : List Addr), toPy d = some p → Lay K H d v A → Dp K H v p
  | .non, p, v, A, e, l => by unfold toPy at e; cases e; rw [l.1]; exact .non
  | .bl b, p, v, A, e, l => by unfold toPy at e; cases e; rw [l.1]; exact .bl b
  | .int i, p, v, A, e, l => by unfold toPy at e; cases e; rw [l.1]; exact .int i
  | .str s, p, v, A, e, l => by unfold toPy at e; cases e; rw [l.1]; exact .str s
  | .tup ds, p, v, A, e, l => by
    unfold toPy at e
    obtain ⟨_, a, vs, e1, h1, h2⟩ := l
    cases q : toPyL ds with
    | none => rw [q] at e; cases e
    | some ps => rw [q] at e; cases e; rw [e1]; exact .tup h1 (toPyL_dp ds ps vs [] q h2)
  | .lst ds, p, v, A, e, l => by
    unfold toPy at e
    obtain ⟨_, a, vs, e1, h1, h2⟩ := l
    cases q : toPyL ds with
    | none => rw [q] at e; cases e
    | some ps => rw [q] at e; cases e; rw [e1]; exact .lst h1.sq (toPyL_dp ds ps vs [] q h2)
  | .kl ds, p, v, A, e, l => by
    unfold toPy at e
    obtain ⟨_, a, vs, e1, h1, h2⟩ := l
    cases q : toPyL ds with
    | none => rw [q] at e; cases e
    | some ps => rw [q] at e; cases e; rw [e1]; exact .lst h1.sq (toPyL_dp ds ps vs [] q h2)
  | .ml ds, p, v, A, e, l => by
    unfold toPy at e
    obtain ⟨a, vs, B, e1, h1, h2, _⟩ := l
    cases q : toPyL ds with
    | none => rw [q] at e; cases e
    | some ps => rw [q] at e; cases e; rw [e1]; exact .lst (SqL.of h1) (toPyL_dp ds ps vs B q h2)
  | .ins _ _ _, p, v, A, e, l => by unfold toPy at e; cases e
  | .exo _ _ _ _ _, p, v, A, e, l => by unfold toPy at e; cases e
  | .vi _ _ _, p, v, A, e, l => by unfold toPy at e; cases e
  | .mt _, p, v, A, e, l => by unfold toPy at e; cases e
  | .rf _, p, v, A, e, l => by unfold toPy at e; cases e
theorem toPyL_dp : ∀ (ds : List D) (ps : List PyData) (vs : List V) (A : List Addr), toPyL ds = some ps → LayL K H ds vs A → DpAll K H vs ps
  | [], ps, vs, A, e, l => by unfold toPyL at e; cases e; rw [l.1]; exact .nil
  | d :: ds, ps, vs, A, e, l => by
    unfold toPyL at e
    obtain ⟨v, ws, A1, A2, e1, e2, l1, l2⟩ := l
    cases q1 : toPy d with
    | none => rw [q1] at e; cases e
    | some p =>
      cases q2 : toPyL ds with
      | none => rw [q1, q2] at e; cases e
      | some qs =>
        rw [q1, q2] at e; cases e
        rw [e1]
        exact .cons (toPy_dp d p v A1 q1 l1) (toPyL_dp ds qs ws A2 q2 l2)
end
/-- a list or tuple, read -/
theorem lay_seq {d : D} {ds : List D} {v : V} {A : List Addr} (e : seqD d = some ds) (l : Lay K H d v A) : ∃ a vs B, v = .ref a ∧ (SqL K H a vs ∨ SqT K H a vs) ∧ LayL K H ds vs B := by
  cases d with
  | tup xs => cases e; obtain ⟨_, a, vs, e1, h1, h2⟩ := l; exact ⟨a, vs, [], e1, .inr h1, h2⟩
  | lst xs => cases e; obtain ⟨_, a, vs, e1, h1, h2⟩ := l; exact ⟨a, vs, [], e1, .inl h1.sq, h2⟩
  | kl xs => cases e; obtain ⟨_, a, vs, e1, h1, h2⟩ := l; exact ⟨a, vs, [], e1, .inl h1.sq, h2⟩
  | ml xs => cases e; obtain ⟨a, vs, B, e1, h1, h2, _⟩ := l; exact ⟨a, vs, B, e1, .inl (SqL.of h1), h2⟩
  | _ => cases e
theorem LayL.get : ∀ {ds : List D} {vs : List V} {A : List Addr} {i : Nat} {d : D}, LayL K H ds vs A → ds[i]? = some d → ∃ v B, vs[i]? = some v ∧ Lay K H d v B
  | [], _, _, _, _, _, e => by simp at e
  | d :: ds, vs, A, 0, d', h, e => by
    obtain ⟨v, ws, A1, A2, e1, _, h1, h2⟩ := h
    subst e1
    simp at e; subst e
    exact ⟨v, A1, rfl, h1⟩
  | d :: ds, vs, A, i + 1, d', h, e => by
    obtain ⟨v, ws, A1, A2, e1, _, h1, h2⟩ := h
    subst e1
    obtain ⟨u, B, q1, q2⟩ := LayL.get (i := i) (d := d') h2 (by simpa using e)
    exact ⟨u, B, by simpa using q1, q2⟩
end

/-! ### what an operation may give -/
def Fn (K : PySem.W.Frag) (H : Hp) (d : D) (Q : VK) : Prop :=
  (∀ v, Lay K H d v [] → Q v H) ∧ (∀ ds vs p, d = .ml ds → H p = none → LayL K H ds vs [] → Q (.ref p) (upd H p (.lst vs))) ∧
    (∀ ds vs p, d = .tup ds → H p = none → LayL K H ds vs [] → Q (.ref p) (upd H p (.tup vs)))
theorem Kp.new {H : Hp} {p : Addr} {o : HO} (h : H p = none) : Kp H (upd H p o) := (Stp.laid (F := fun _ => False) (o := o) h).kp
section
variable {K : PySem.W.Frag} {W : WX} {σ : St} {H : Hp} {ss : Sl} {Af : Nat → List Addr} {d : D} {Q : VK}
theorem Rep.fresh (r : Rep K H ss σ Af) {p : Addr} (hp : H p = none) : ¬ Own Af p := fun z => by
  obtain ⟨o, e, _⟩ := r.there z
  rw [hp] at e; cases e
theorem Rep.laid (r : Rep K H ss σ Af) {p : Addr} {o : HO} (hp : H p = none) : Rep K (upd H p o) ss σ Af :=
  r.step (F := fun _ => False) (Stp.laid hp) fun _ _ z => z
theorem Wn.fn (r : Rep K H ss σ Af) (h : Wn (LayX K σ) K W σ H (Own Af) (.ok (.val d) ss) Q) : Fn K H d Q := by
  refine ⟨fun v l => Wn.done r h l, fun ds vs p e hp l => ?_, fun ds vs p e hp l => ?_⟩
  · subst e
    refine h _ _ ⟨Af, [p], r.laid hp, ⟨p, vs, [], rfl, upd_same, LayL.keep (Kp.new hp) l, rfl⟩, by simp, fun a ha => ?_, (Stp.laid hp).sub fun b hb => hb.elim .inl fun z => .inr (by simpa using z)⟩
    have : a = p := by simpa using ha
    subst this
    exact r.fresh hp
  · subst e
    refine h _ _ ⟨Af, [], r.laid hp, ⟨rfl, p, vs, rfl, SqT.of upd_same, LayL.keep (Kp.new hp) l⟩, List.nodup_nil, fun a ha => (nomatch ha), (Stp.laid hp).sub fun b hb => hb.elim .inl fun z => nomatch z⟩
theorem Fn.val (h : Fn K H d Q) {v : V} (f : flatD d = some v) : Q v H := h.1 v (flat_lay f)
end

/-! ### binary operators -/
def bigD (i : Int) : Bool := decide (-(2 ^ 64) < i) && decide (i < 2 ^ 64)
def binD : Operator → D → D → Option D
  | .Add, .int i, .int j => some (.int (i + j))
  | .Add, .str s, .str t => if s.length + t.length ≤ sizeLine then some (.str (s ++ t)) else none
  | .Add, .tup a, .tup b => if a.length + b.length ≤ sizeLine then some (.tup (a ++ b)) else none
  | .Add, .ml a, .ml b => if a.length + b.length ≤ sizeLine ∧ allPure a = true ∧ allPure b = true then some (.ml (a ++ b)) else none
  | .Add, .ml a, .lst b => if a.length + b.length ≤ sizeLine ∧ allPure a = true then some (.ml (a ++ b)) else none
  | .Add, .lst a, .ml b => if a.length + b.length ≤ sizeLine ∧ allPure b = true then some (.ml (a ++ b)) else none
  | .Add, .lst a, .lst b => if a.length + b.length ≤ sizeLine then some (.ml (a ++ b)) else none
  | .Add, .kl a, .ml b => if a.length + b.length ≤ sizeLine ∧ allPure b = true then some (.ml (a ++ b)) else none
  | .Add, .ml a, .kl b => if a.length + b.length ≤ sizeLine ∧ allPure a = true then some (.ml (a ++ b)) else none
  | .Add, .kl a, .kl b => if a.length + b.length ≤ sizeLine then some (.ml (a ++ b)) else none
  | .Add, .kl a, .lst b => if a.length + b.length ≤ sizeLine then some (.ml (a ++ b)) else none
  | .Add, .lst a, .kl b => if a.length + b.length ≤ sizeLine then some (.ml (a ++ b)) else none
  | .Sub, .int i, .int j => some (.int (i - j))
  | .Mult, .int i, .int j => if (bigD i || bigD j) = true then some (.int (i * j)) else none
  | .FloorDiv, .int i, .int j => if 0 < j ∧ j < 2 ^ 64 then some (.int (i / j)) else none
  | .Mod, .int i, .int j => if 0 < j then some (.int (i % j)) else none
  | .Pow, .int i, .int j => if 0 ≤ j ∧ j ≤ 1000000 ∧ i.natAbs < 2 ^ 64 then some (.int (i ^ j.toNat)) else none
  | _, _, _ => none

section
variable {X : Cx}
/-- xs + zs of any two lists -/
def rCatL (K : PySem.W.Frag) : R2 := fun x y H Q => ∃ l b xs zs, x = .ref l ∧ y = .ref b ∧ SqL K H l xs ∧ SqL K H b zs ∧ xs.length + zs.length ≤ sizeLine ∧ ∀ p, H p = none → Q (.ref p) (upd H p (.lst (xs ++ zs)))
open PyProof.Rows in
theorem op_catL : OpR X (binaryOp .Add) (rCatL X.K) := by
  intro pins s σ H x y v u Q I rx ry h
  obtain ⟨l, b, xs, zs, rfl, rfl, hH, hB, hz, q⟩ := h
  cases rx
  cases ry
  obtain ⟨its, r, pl, _⟩ := I.list hH
  obtain ⟨its2, r2, pl2, _⟩ := I.list hB
  obtain ⟨⟨cls, dd, data, sl⟩, n, ho, hc, _, hd⟩ := id pl
  obtain ⟨⟨cls2, dd2, data2, sl2⟩, n2, ho2, hc2, _, hd2⟩ := id pl2
  simp only at hc hd hc2 hd2
  subst hc hd hc2 hd2
  have hl := r.length
  have hl2 := r2.length
  have ea : its.toArray ++ its2.toArray = (its ++ its2).toArray := by simp
  refine PySem.concat_meets ⟨_, ho, rfl⟩ ⟨_, ho2, rfl⟩ PySem.noFill_list_add PySem.seq_list_add PySem.F.slot_list_add PySem.F.entry_list_add (PySem.F.args_list_add_2 _ _) (list_addW l b its.toArray its2.toArray n n2 dd dd2 sl sl2 (by simp; omega)) ⟨ho, ho2, ?_⟩
  rw [ea]
  exact ⟨.ref _, _, I.lnew (t' := s.toks) (r.append r2) (by rw [List.length_append]; omega), rfl, q _ I.fresh⟩
def rAddAny (K : PySem.W.Frag) : R2 := fun x y H Q => rI0 (fun i j => .int (i + j)) x y H Q ∨ (∃ i j, x = .str i ∧ y = .str j ∧ i.length + j.length ≤ sizeLine ∧ Q (.str (i ++ j)) H) ∨ rCatA K x y H Q ∨ rCatL K x y H Q
theorem op_addAny : OpR X (binaryOp .Add) (rAddAny X.K) := op_add.or (op_add_str.or (op_catA.or op_catL))
def rBin (K : PySem.W.Frag) : Operator → R2
  | .Add => rAddAny K
  | .Sub => rI0 fun i j => .int (i - j)
  | .Mult => rI CMul fun i j => .int (i * j)
  | .FloorDiv => rI CDivW fun i j => .int (i / j)
  | .Mod => rI (fun _ j => 0 < j) fun i j => .int (i % j)
  | .Pow => rI CPow fun i j => .int (i ^ j.toNat)
  | _ => fun _ _ _ _ => False
theorem op_bin (op : Operator) : OpR X (binaryOp op) (rBin X.K op) := by
  cases op with
  | Add => exact op_addAny
  | Sub => exact op_sub
  | Mult => exact op_mul
  | FloorDiv => exact op_fdivW
  | Mod => exact op_mod
  | Pow => exact op_pow
  | _ => exact fun _ _ _ _ _ _ _ _ _ _ _ _ h => h.elim
end

/-- op is what r gives -/
def OpS (K : PySem.W.Frag) (op : D → D → Option D) (r : R2) : Prop := ∀ (H : Hp) (x y d : D) (v w : V) (A B : List Addr) (Q : VK), Lay K H x v A → Lay K H y w B → op x y = some d → Fn K H d Q → r v w H Q
section
variable {K : PySem.W.Frag}
theorem len_of {H : Hp} {ds : List D} {vs : List V} {A : List Addr} (l : LayL K H ds vs A) : vs.length = ds.length := LayL.len l
theorem rd_lst {H : Hp} {ds : List D} {v : V} {A : List Addr} (l : Lay K H (.lst ds) v A) : ∃ a vs, v = .ref a ∧ SqL K H a vs ∧ LayL K H ds vs [] :=
  let ⟨_, a, vs, e, h1, h2⟩ := l
  ⟨a, vs, e, h1.sq, h2⟩
theorem rd_kl {H : Hp} {ds : List D} {v : V} {A : List Addr} (l : Lay K H (.kl ds) v A) : ∃ a vs, v = .ref a ∧ SqL K H a vs ∧ LayL K H ds vs [] :=
  let ⟨_, a, vs, e, h1, h2⟩ := l
  ⟨a, vs, e, h1.sq, h2⟩
theorem rd_ml {H : Hp} {ds : List D} {v : V} {A : List Addr} (l : Lay K H (.ml ds) v A) (p : allPure ds = true) : ∃ a vs, v = .ref a ∧ SqL K H a vs ∧ LayL K H ds vs [] :=
  let ⟨a, vs, B, e, h1, h2, _⟩ := l
  ⟨a, vs, e, SqL.of h1, by rw [layL_pure p h2] at h2; exact h2⟩
theorem cat_s {H : Hp} {a b : List D} {v w : V} {Q : VK} (f : Fn K H (.ml (a ++ b)) Q) (h1 : ∃ l vs, v = .ref l ∧ SqL K H l vs ∧ LayL K H a vs []) (h2 : ∃ l vs, w = .ref l ∧ SqL K H l vs ∧ LayL K H b vs [])
    (hz : a.length + b.length ≤ sizeLine) : rCatL K v w H Q := by
  obtain ⟨l, vs, e1, r1, l1⟩ := h1
  obtain ⟨m, ws, e2, r2, l2⟩ := h2
  exact ⟨l, m, vs, ws, e1, e2, r1, r2, by rw [len_of l1, len_of l2]; exact hz, fun p hp => f.2.1 _ _ p rfl hp (l1.append0 l2)⟩
theorem ops_bin (op : Operator) : OpS K (binD op) (rBin K op) := by
  intro H x y d v w A B Q l1 l2 e f
  unfold binD at e
  split at e
  · cases e; exact .inl ⟨_, _, l1.1, l2.1, f.val rfl⟩
  · split at e
    · cases e; exact .inr (.inl ⟨_, _, l1.1, l2.1, ‹_›, f.val rfl⟩)
    · cases e
  · split at e
    · cases e
      obtain ⟨_, a, vs, e1, h1, h2⟩ := l1
      obtain ⟨_, b, ws, e2, h3, h4⟩ := l2
      refine .inr (.inr (.inl ⟨a, b, vs, ws, e1, e2, h1, h3, by rw [len_of h2, len_of h4]; assumption, fun z => ?_, fun _ z => ?_, fun _ _ p hp => f.2.2 _ _ p rfl hp (h2.append0 h4)⟩))
      · subst z
        have q := h2.append0 h4
        refine f.1 _ ⟨rfl, b, ws, rfl, h3, ?_⟩
        simpa using q
      · subst z
        have q := h2.append0 h4
        refine f.1 _ ⟨rfl, a, vs, rfl, h1, ?_⟩
        simpa using q
    · cases e
  · split at e
    · rename_i c; obtain ⟨c1, c2, c3⟩ := c; cases e; exact .inr (.inr (.inr (cat_s f (rd_ml l1 c2) (rd_ml l2 c3) c1)))
    · cases e
  · split at e
    · rename_i c; obtain ⟨c1, c2⟩ := c; cases e; exact .inr (.inr (.inr (cat_s f (rd_ml l1 c2) (rd_lst l2) c1)))
    · cases e
  · split at e
    · rename_i c; obtain ⟨c1, c2⟩ := c; cases e; exact .inr (.inr (.inr (cat_s f (rd_lst l1) (rd_ml l2 c2) c1)))
    · cases e
  · split at e
    · cases e; exact .inr (.inr (.inr (cat_s f (rd_lst l1) (rd_lst l2) ‹_›)))
    · cases e
  · split at e
    · rename_i c; obtain ⟨c1, c2⟩ := c; cases e; exact .inr (.inr (.inr (cat_s f (rd_kl l1) (rd_ml l2 c2) c1)))
    · cases e
  · split at e
    · rename_i c; obtain ⟨c1, c2⟩ := c; cases e; exact .inr (.inr (.inr (cat_s f (rd_ml l1 c2) (rd_kl l2) c1)))
    · cases e
  · split at e
    · cases e; exact .inr (.inr (.inr (cat_s f (rd_kl l1) (rd_kl l2) ‹_›)))
    · cases e
  · split at e
    · cases e; exact .inr (.inr (.inr (cat_s f (rd_kl l1) (rd_lst l2) ‹_›)))
    · cases e
  · split at e
    · cases e; exact .inr (.inr (.inr (cat_s f (rd_lst l1) (rd_kl l2) ‹_›)))
    · cases e
  · cases e; exact ⟨_, _, l1.1, l2.1, f.val rfl⟩
  · split at e
    · rename_i c
      cases e
      refine ⟨_, _, l1.1, l2.1, ?_, f.val rfl⟩
      unfold bigD at c
      simp only [Bool.or_eq_true, Bool.and_eq_true, decide_eq_true_eq] at c
      exact c
    · cases e
  · split at e
    · rename_i c
      cases e
      refine ⟨_, _, l1.1, l2.1, wide_div (b := 64) c.1 ?_ (by decide) (by decide), f.val rfl⟩
      have h1 := c.1
      have h2 := c.2
      omega
    · cases e
  · split at e
    · cases e; exact ⟨_, _, l1.1, l2.1, ‹_›, f.val rfl⟩
    · cases e
  · split at e
    · cases e; exact ⟨_, _, l1.1, l2.1, ‹_›, f.val rfl⟩
    · cases e
  · cases e
end
end Dn

set_option Elab.async false
set_option linter.all false
set_option maxRecDepth 100000
set_option maxHeartbeats 2000000
/-! Dn3c: tuples of whole numbers by >, anything `is` True. -/
namespace Dn
open PySem L2 PyProof.Rows
theorem lexAt_shift {e r : Nat → Bool} {z : Bool} : ∀ (k i : Nat), Ob.lexAt e r z (i + 1) k = Ob.lexAt (fun j => e (j + 1)) (fun j => r (j + 1)) z i k
  | 0, i => rfl
  | k + 1, i => by rw [Ob.lexAt_succ, Ob.lexAt_succ, lexAt_shift k (i + 1)]
theorem lexAt_gt : ∀ ns ms : List Int, Ob.lexAt (fun j => decide (ns.getD j 0 = ms.getD j 0)) (fun j => decide (ms.getD j 0 < ns.getD j 0)) (decide (ns.length > ms.length)) 0 (min ns.length ms.length) = HT.lexLt ms ns
  | [], [] => rfl
  | [], m :: ms => by
    rw [HT.lexLt_cons_nil, List.length_nil, Nat.zero_min, Ob.lexAt_zero]
    simp
  | n :: ns, [] => by
    rw [HT.lexLt_nil_cons, List.length_nil, Nat.min_zero, Ob.lexAt_zero]
    simp
  | n :: ns, m :: ms => by
    rw [List.length_cons, List.length_cons, Nat.succ_min_succ, Ob.lexAt_succ, lexAt_shift, HT.lexLt_cons]
    have ih := lexAt_gt ns ms
    have e0 : (decide (ns.length + 1 > ms.length + 1)) = decide (ns.length > ms.length) := by
      by_cases h : ns.length > ms.length
      · rw [decide_eq_true h, decide_eq_true (by omega)]
      · rw [decide_eq_false h, decide_eq_false (by omega)]
    rw [e0]
    show (if decide (n = m) = true then Ob.lexAt (fun j => decide (ns.getD j 0 = ms.getD j 0)) (fun j => decide (ms.getD j 0 < ns.getD j 0)) _ 0 _ else decide (m < n)) = _
    rw [ih]
    by_cases h : n = m
    · subst h; simp
    · have h' : ¬ m = n := fun z => h z.symm
      simp [h, h']
def rGtT (K : PySem.W.Frag) : R2 := fun x y H Q => ∃ (a b : Addr) (ns ms : List Int), x = .ref a ∧ y = .ref b ∧ SqT K H a (ns.map V.int) ∧ SqT K H b (ms.map V.int) ∧ Q (.bl (HT.lexLt ms ns)) H
theorem op_gtT {X : Cx} (hu : X.A.units < cLine) : OpR X (compareOp .Gt) (rGtT X.K) := by
  intro pins s σ H x y v u Q I rx ry h
  obtain ⟨a, b, ns, ms, rfl, rfl, ha, hb, q⟩ := h
  cases rx
  cases ry
  obtain ⟨its, r1, p1, _⟩ := I.tuple ha
  obtain ⟨its2, r2, p2, _⟩ := I.tuple hb
  have i1 : IntsAre its ns := Vals.ints r1
  have i2 : IntsAre its2 ms := Vals.ints r2
  have n1 : its.toArray.size = ns.length := by rw [List.size_toArray]; exact i1.length
  have n2 : its2.toArray.size = ms.length := by rw [List.size_toArray]; exact i2.length
  have at1 : ∀ j (h1 : j < its.toArray.size), ∃ t, its.toArray[j] = .int (ns.getD j 0) t := fun j h1 => IntsAre.int_at i1 _ _ (by simp at h1; simp [h1])
  have at2 : ∀ j (h1 : j < its2.toArray.size), ∃ t, its2.toArray[j] = .int (ms.getD j 0) t := fun j h1 => IntsAre.int_at i2 _ _ (by simp at h1; simp [h1])
  have R := Ob.RcOp.tuples_gt (A := X.A) (s := s) (e := fun j => decide (ns.getD j 0 = ms.getD j 0)) (r := fun j => decide (ms.getD j 0 < ns.getD j 0)) p1 p2 hu (fun j h1 h2 => by
    obtain ⟨t, et⟩ := at1 j h1
    obtain ⟨t', et'⟩ := at2 j h2
    rw [et, et']
    have z : (ns.getD j 0 == ms.getD j 0) = decide (ns.getD j 0 = ms.getD j 0) := by
      rw [Bool.eq_iff_iff]; simp
    rw [← z]
    exact SeqAt.EqAt.int_int _ _ _ _) (fun j h1 h2 _ => by
    obtain ⟨t, et⟩ := at1 j h1
    obtain ⟨t', et'⟩ := at2 j h2
    rw [et, et']
    exact Ob.RcOp.gt_int _ _ _ _)
  rw [n1, n2, lexAt_gt] at R
  exact R X.prog X.w X.xe (EP X pins σ Q) ⟨.bl _, H, I, rfl, q⟩
/-- anything `is` a truth value -/
theorem op_isB {X : Cx} : OpR X (compareOp .Is) (fun x y H Q => ∃ b, y = .bl b ∧ Q (.bl (decide (x = .bl b))) H) := by
  intro pins s σ H x y v u Q I rx ry h
  obtain ⟨b, rfl, q⟩ := h
  cases (show u = Value.bool b from ry)
  have go : PySem.plainIs v (.bool b) = true ∧ (v == Value.bool b) = decide (x = V.bl b) := by
    cases x <;> first
      | (cases rx; refine ⟨rfl, ?_⟩; rw [Bool.eq_iff_iff]; simp)
      | (obtain ⟨t, rfl⟩ := rx; refine ⟨rfl, ?_⟩; rw [Bool.eq_iff_iff]; simp)
  exact wpAny_is_plain go.1 ⟨.bl _, H, I, rfl, by rw [go.2]; exact q⟩
theorem op_isnotB {X : Cx} : OpR X (compareOp .IsNot) (fun x y H Q => ∃ b, y = .bl b ∧ Q (.bl (!decide (x = .bl b))) H) := by
  intro pins s σ H x y v u Q I rx ry h
  obtain ⟨b, rfl, q⟩ := h
  cases (show u = Value.bool b from ry)
  have go : PySem.plainIs v (.bool b) = true ∧ (v == Value.bool b) = decide (x = V.bl b) := by
    cases x <;> first
      | (cases rx; refine ⟨rfl, ?_⟩; rw [Bool.eq_iff_iff]; simp)
      | (obtain ⟨t, rfl⟩ := rx; refine ⟨rfl, ?_⟩; rw [Bool.eq_iff_iff]; simp)
  exact wpAny_isNot_plain go.1 ⟨.bl _, H, I, rfl, by rw [go.2]; exact q⟩
end Dn

set_option Elab.async false
set_option linter.all false
set_option maxRecDepth 100000
set_option maxHeartbeats 2000000
/-! Dn4: comparisons, indices, slices, truth; the combinators of expressions. -/
namespace Dn
open PySem L2
variable [ZS]

def flatsD : List D → Option (List V)
  | [] => some []
  | d :: r => match flatD d, flatsD r with
    | some v, some vs => some (v :: vs)
    | _, _ => none
def eqD : D → D → Option Bool
  | .int i, .int j => some (decide (i = j))
  | .str s, .str t => some (decide (s = t))
  | .bl a, .bl b => some (decide (a = b))
  | .non, .non => some true
  | x, y => match flatD x, flatD y with
    | some u, some v => if scal u v = true then some (decide (u = v)) else none
    | _, _ => match toPy x, toPy y with
      | some p, some q => if (SeqAt.shaped p && SeqAt.shaped q) = true then some (PyData.eqv p q) else none
      | _, _ => none
def ltD : D → D → Option Bool
  | .int i, .int j => some (decide (i < j))
  | .str s, .str t => some (decide (s.cps.toList < t.cps.toList))
  | .tup a, .tup b => match intsD a, intsD b with
    | some ns, some ms => some (HT.lexLt ns ms)
    | _, _ => none
  | _, _ => none
def inD (x y : D) : Option Bool := match flatD x, seqD y with
  | some u, some ys => match flatsD ys with
    | some vs => some (inV u vs)
    | none => none
  | _, _ => none
def isNonD : D → Bool
  | .non => true
  | _ => false
def isBlD (d : D) (b : Bool) : Bool := match d with
  | .bl a => decide (a = b)
  | _ => false
def isD : D → D → Option Bool
  | x, .non => some (isNonD x)
  | x, .bl b => some (isBlD x b)
  | _, _ => none
def gtD : D → D → Option Bool
  | .int i, .int j => some (decide (j < i))
  | .tup a, .tup b => match intsD a, intsD b with
    | some ns, some ms => some (HT.lexLt ms ns)
    | _, _ => none
  | _, _ => none
def cmpD : CmpOp → D → D → Option Bool
  | .Eq, x, y => eqD x y
  | .NotEq, x, y => (eqD x y).map (!·)
  | .Lt, x, y => ltD x y
  | .LtE, .int i, .int j => some (decide (i ≤ j))
  | .Gt, x, y => gtD x y
  | .GtE, .int i, .int j => some (decide (j ≤ i))
  | .Is, x, y => isD x y
  | .IsNot, x, y => (isD x y).map (!·)
  | .In, x, y => inD x y
  | .NotIn, x, y => (inD x y).map (!·)
  | _, _, _ => none
def cmpD' (op : CmpOp) (x y : D) : Option D := (cmpD op x y).map D.bl

section
variable {K : PySem.W.Frag} {H : Hp}
theorem layL_flats : ∀ {ds : List D} {us vs : List V} {A : List Addr}, flatsD ds = some us → LayL K H ds vs A → vs = us ∧ us.all flatV = true
  | [], us, vs, A, e, l => by cases e; exact ⟨l.1, rfl⟩
  | d :: r, us, vs, A, e, l => by
    obtain ⟨v, ws, A1, A2, e1, e2, l1, l2⟩ := l
    unfold flatsD at e
    cases q1 : flatD d with
    | none => rw [q1] at e; cases e
    | some u =>
      cases q2 : flatsD r with
      | none => rw [q1, q2] at e; cases e
      | some ws' =>
        rw [q1, q2] at e
        cases e
        obtain ⟨h1, h2⟩ := layL_flats q2 l2
        rw [e1, lay_flat q1 l1, h1]
        exact ⟨rfl, by rw [List.all_cons, flat_flat q1, h2]; rfl⟩
def rCmp (K : PySem.W.Frag) : CmpOp → R2
  | .Eq => fun x y H Q => rEq x y H Q ∨ rEqD K x y H Q
  | .NotEq => fun x y H Q => rNe x y H Q ∨ rNeD K x y H Q
  | .Lt => fun x y H Q => rI0 (fun i j => .bl (decide (i < j))) x y H Q ∨ (∃ i j, x = .str i ∧ y = .str j ∧ Q (.bl (decide (i.cps.toList < j.cps.toList))) H) ∨ rLtT K x y H Q
  | .LtE => rI0 fun i j => .bl (decide (i ≤ j))
  | .Gt => fun x y H Q => rI0 (fun i j => .bl (decide (j < i))) x y H Q ∨ rGtT K x y H Q
  | .GtE => rI0 fun i j => .bl (decide (j ≤ i))
  | .Is => fun x y H Q => (y = .non ∧ Q (.bl (decide (x = .non))) H) ∨ (∃ b, y = .bl b ∧ Q (.bl (decide (x = .bl b))) H)
  | .IsNot => fun x y H Q => (y = .non ∧ Q (.bl (!decide (x = .non))) H) ∨ (∃ b, y = .bl b ∧ Q (.bl (!decide (x = .bl b))) H)
  | .In => rIn K false
  | .NotIn => rIn K true
theorem op_cmpA {X : Cx} (hu : X.A.units + 64 < cLine) (op : CmpOp) : OpR X (compareOp op) (rCmp X.K op) := by
  cases op with
  | Eq => exact op_eq.or (op_eqD hu)
  | NotEq => exact op_ne.or (op_neD hu)
  | Lt => exact op_lt.or (op_lt_str.or (op_ltT (by omega)))
  | LtE => exact op_le
  | Gt => exact op_gt.or (op_gtT (by omega))
  | GtE => exact op_ge
  | Is => exact op_isN.or op_isB
  | IsNot => exact op_notN.or op_isnotB
  | In => exact op_in_seq
  | NotIn => exact op_notIn_seq
theorem lay_non : ∀ {d : D} {v : V} {A : List Addr}, Lay K H d v A → decide (v = .non) = isNonD d := fun {d v A} l => by
  cases d with
  | vi => obtain ⟨_, a, dx, vs, e, _⟩ := l; rw [e]; exact decide_eq_false (fun z => nomatch z)
  | mt => obtain ⟨a, vs, e, _⟩ := l; rw [e]; exact decide_eq_false (fun z => nomatch z)
  | rf => rw [l.1]; exact decide_eq_false (fun z => nomatch z)
  | non => rw [l.1]; rfl
  | bl => rw [l.1]; exact decide_eq_false (fun z => nomatch z)
  | int => rw [l.1]; exact decide_eq_false (fun z => nomatch z)
  | str => rw [l.1]; exact decide_eq_false (fun z => nomatch z)
  | tup => obtain ⟨_, a, vs, e, _⟩ := l; rw [e]; exact decide_eq_false (fun z => nomatch z)
  | lst => obtain ⟨_, a, vs, e, _⟩ := l; rw [e]; exact decide_eq_false (fun z => nomatch z)
  | kl => obtain ⟨_, a, vs, e, _⟩ := l; rw [e]; exact decide_eq_false (fun z => nomatch z)
  | ml => obtain ⟨a, vs, B, e, _⟩ := l; rw [e]; exact decide_eq_false (fun z => nomatch z)
  | ins => obtain ⟨a, dx, vs, B, e, _⟩ := l; rw [e]; exact decide_eq_false (fun z => nomatch z)
  | exo => obtain ⟨_, e, _⟩ := l; rw [e]; exact decide_eq_false (fun z => nomatch z)
theorem fbl {b : Bool} {Q : VK} (f : Fn K H (.bl b) Q) : Q (.bl b) H := f.val rfl
theorem eq_two {x y : D} {v w : V} {A B : List Addr} {b : Bool} (l1 : Lay K H x v A) (l2 : Lay K H y w B) (e : eqD x y = some b) :
    (scal v w = true ∧ decide (v = w) = b) ∨ ∃ p q, Dp K H v p ∧ Dp K H w q ∧ SeqAt.shaped p = true ∧ SeqAt.shaped q = true ∧ PyData.eqv p q = b := by
  unfold eqD at e
  split at e
  · cases e; left; rw [l1.1, l2.1]; exact ⟨rfl, by simp⟩
  · cases e; left; rw [l1.1, l2.1]; exact ⟨rfl, by simp⟩
  · cases e; left; rw [l1.1, l2.1]; exact ⟨rfl, by simp⟩
  · cases e; left; rw [l1.1, l2.1]; exact ⟨rfl, by simp⟩
  · split at e
    · rename_i u u' f1 f2
      split at e
      · cases e; left; rw [lay_flat f1 l1, lay_flat f2 l2]; exact ⟨‹_›, rfl⟩
      · cases e
    · split at e
      · rename_i p q f1 f2
        split at e
        · rename_i c
          obtain ⟨c1, c2⟩ := Bool.and_eq_true_iff.mp c
          cases e
          exact .inr ⟨p, q, toPy_dp _ _ _ _ f1 l1, toPy_dp _ _ _ _ f2 l2, c1, c2, rfl⟩
        · cases e
      · cases e
theorem lay_isBl {d : D} {v : V} {A : List Addr} {b : Bool} (l : Lay K H d v A) : decide (v = .bl b) = isBlD d b := by
  cases d with
  | vi => obtain ⟨_, a, dx, vs, e, _⟩ := l; rw [e]; exact decide_eq_false (fun z => nomatch z)
  | mt => obtain ⟨a, vs, e, _⟩ := l; rw [e]; exact decide_eq_false (fun z => nomatch z)
  | rf => rw [l.1]; exact decide_eq_false (fun z => nomatch z)
  | non => rw [l.1]; exact decide_eq_false (fun z => nomatch z)
  | bl a => rw [l.1]; unfold isBlD; rw [Bool.eq_iff_iff]; simp
  | int => rw [l.1]; exact decide_eq_false (fun z => nomatch z)
  | str => rw [l.1]; exact decide_eq_false (fun z => nomatch z)
  | tup => obtain ⟨_, a, vs, e, _⟩ := l; rw [e]; exact decide_eq_false (fun z => nomatch z)
  | lst => obtain ⟨_, a, vs, e, _⟩ := l; rw [e]; exact decide_eq_false (fun z => nomatch z)
  | kl => obtain ⟨_, a, vs, e, _⟩ := l; rw [e]; exact decide_eq_false (fun z => nomatch z)
  | ml => obtain ⟨a, vs, B, e, _⟩ := l; rw [e]; exact decide_eq_false (fun z => nomatch z)
  | ins => obtain ⟨a, dx, vs, B, e, _⟩ := l; rw [e]; exact decide_eq_false (fun z => nomatch z)
  | exo => rw [l.2.1]; exact decide_eq_false (fun z => nomatch z)
theorem is_two {x y : D} {v w : V} {A B : List Addr} {b : Bool} (l1 : Lay K H x v A) (l2 : Lay K H y w B) (e : isD x y = some b) :
    (w = .non ∧ decide (v = .non) = b) ∨ ∃ c, w = .bl c ∧ decide (v = .bl c) = b := by
  unfold isD at e
  split at e
  · cases e; exact .inl ⟨l2.1, lay_non l1⟩
  · cases e; exact .inr ⟨_, l2.1, lay_isBl l1⟩
  · cases e
theorem in_two {x y : D} {v w : V} {A B : List Addr} {b : Bool} (l1 : Lay K H x v A) (l2 : Lay K H y w B) (e : inD x y = some b) :
    ∃ p xs, w = .ref p ∧ (SqL K H p xs ∨ SqT K H p xs) ∧ flatV v = true ∧ xs.all flatV = true ∧ inV v xs = b := by
  unfold inD at e
  split at e
  · rename_i u ys f1 f2
    split at e
    · rename_i vs f3
      cases e
      obtain ⟨a, ws, C, e1, h1, h2⟩ := lay_seq f2 l2
      obtain ⟨q1, q2⟩ := layL_flats f3 h2
      subst q1
      rw [lay_flat f1 l1]
      exact ⟨a, ws, e1, h1, flat_flat f1, q2, rfl⟩
    · cases e
  · cases e
theorem map_bl {o : Option Bool} {d : D} (e : o.map D.bl = some d) : ∃ b, o = some b ∧ d = .bl b := by
  cases o with
  | none => cases e
  | some b => cases e; exact ⟨b, rfl, rfl⟩
theorem map_not {o : Option Bool} {b : Bool} (e : o.map (!·) = some b) : o = some (!b) := by
  cases o with
  | none => cases e
  | some c => cases e; simp
theorem ops_cmp (op : CmpOp) : OpS K (cmpD' op) (rCmp K op) := by
  intro H x y d v w A B Q l1 l2 e f
  obtain ⟨b, e', rfl⟩ := map_bl e
  clear e
  have e := e'
  clear e'
  have q : Q (.bl b) H := fbl f
  cases op with
  | Eq =>
    rcases eq_two l1 l2 e with ⟨h1, h2⟩ | ⟨p, p', h1, h2, h3, h4, h5⟩
    · exact .inl ⟨h1, by rw [h2]; exact q⟩
    · exact .inr ⟨p, p', h1, h2, h3, h4, by rw [h5]; exact q⟩
  | NotEq =>
    rcases eq_two l1 l2 (map_not e) with ⟨h1, h2⟩ | ⟨p, p', h1, h2, h3, h4, h5⟩
    · exact .inl ⟨h1, by rw [h2, Bool.not_not]; exact q⟩
    · exact .inr ⟨p, p', h1, h2, h3, h4, by rw [h5, Bool.not_not]; exact q⟩
  | Lt =>
    have e : ltD x y = some b := e
    unfold ltD at e
    split at e
    · cases e; exact .inl ⟨_, _, l1.1, l2.1, q⟩
    · cases e; exact .inr (.inl ⟨_, _, l1.1, l2.1, q⟩)
    · split at e
      · rename_i f1 f2
        cases e
        obtain ⟨_, a, vs, e1, h1, h2⟩ := l1
        obtain ⟨_, c, ws, e2, h3, h4⟩ := l2
        rw [layL_ints f1 h2] at h1
        rw [layL_ints f2 h4] at h3
        exact .inr (.inr ⟨a, c, _, _, e1, e2, h1, h3, q⟩)
      · cases e
    · cases e
  | LtE =>
    cases x <;> cases y <;> first | (cases e; exact ⟨_, _, l1.1, l2.1, q⟩) | cases e
  | Gt =>
    have e : gtD x y = some b := e
    unfold gtD at e
    split at e
    · cases e; exact .inl ⟨_, _, l1.1, l2.1, q⟩
    · split at e
      · rename_i f1 f2
        cases e
        obtain ⟨_, a, vs, e1, h1, h2⟩ := l1
        obtain ⟨_, c, ws, e2, h3, h4⟩ := l2
        rw [layL_ints f1 h2] at h1
        rw [layL_ints f2 h4] at h3
        exact .inr ⟨a, c, _, _, e1, e2, h1, h3, q⟩
      · cases e
    · cases e
  | GtE =>
    cases x <;> cases y <;> first | (cases e; exact ⟨_, _, l1.1, l2.1, q⟩) | cases e
  | Is =>
    rcases is_two l1 l2 e with ⟨h1, h2⟩ | ⟨c, h2, h3⟩
    · exact .inl ⟨h1, by rw [h2]; exact q⟩
    · exact .inr ⟨c, h2, by rw [h3]; exact q⟩
  | IsNot =>
    rcases is_two l1 l2 (map_not e) with ⟨h1, h2⟩ | ⟨c, h2, h3⟩
    · exact .inl ⟨h1, by rw [h2, Bool.not_not]; exact q⟩
    · exact .inr ⟨c, h2, by rw [h3, Bool.not_not]; exact q⟩
  | In =>
    obtain ⟨p, xs, h1, h2, h3, h4, h5⟩ := in_two l1 l2 e
    exact ⟨p, xs, h1, h2, h3, h4, by show Q (.bl (inV v xs)) H; rw [h5]; exact q⟩
  | NotIn =>
    obtain ⟨p, xs, h1, h2, h3, h4, h5⟩ := in_two l1 l2 (map_not e)
    exact ⟨p, xs, h1, h2, h3, h4, by show Q (.bl (!inV v xs)) H; rw [h5, Bool.not_not]; exact q⟩

/-! ### subscripts -/
def ixD (x y : D) : Option D := match y with
  | .int i => match x with
    | .str s => if s.length ≤ sizeLine then (atI s.cps.toList i).map fun c => .str ⟨#[c]⟩ else none
    | _ => match seqD x with
      | some ds => match atI ds i with
        | some d => if d.pure = true then some d else none
        | none => none
      | none => none
  | _ => none
theorem atI_lay {ds : List D} {vs : List V} {A : List Addr} {i : Int} {d : D} (l : LayL K H ds vs A) (e : atI ds i = some d) : ∃ v B, atI vs i = some v ∧ Lay K H d v B := by
  unfold atI at e ⊢
  rw [LayL.len l]
  cases q : ixN ds.length i with
  | none => rw [q] at e; cases e
  | some j =>
    rw [q] at e
    exact l.get e
theorem ops_ix : OpS K ixD (rIx K) := by
  intro H x y d v w A B Q l1 l2 e f
  unfold ixD at e
  split at e
  · rename_i i
    split at e
    · rename_i s
      split at e
      · cases q : atI s.cps.toList i with
        | none => rw [q] at e; cases e
        | some c =>
          rw [q] at e; cases e
          exact .inr (.inr ⟨s, i, c, l1.1, l2.1, ‹_›, q, f.val rfl⟩)
      · cases e
    · split at e
      · rename_i ds f1
        split at e
        · rename_i d' f2
          split at e
          · rename_i p
            cases e
            obtain ⟨a, vs, C, e1, h1, h2⟩ := lay_seq f1 l1
            obtain ⟨u, C', q1, q2⟩ := atI_lay h2 f2
            have z := q2.emp p
            subst z
            have q : Q u H := f.1 u q2
            rcases h1 with h1 | h1
            · exact .inl ⟨a, vs, i, u, e1, l2.1, h1, q1, q⟩
            · exact .inr (.inl ⟨a, vs, i, u, e1, l2.1, h1, q1, q⟩)
          · cases e
        · cases e
      · cases e
  · cases e
end

/-! ### truth, length -/
def truthD : D → Option Bool
  | .non => some false
  | .bl b => some b
  | .int i => some (i != 0)
  | .str s => if s.length ≤ sizeLine then some ((s.length : Int) != 0) else none
  | .tup ds => some (!ds.isEmpty)
  | .lst ds => some (!ds.isEmpty)
  | .ml ds => some (!ds.isEmpty)
  | .kl ds => some (!ds.isEmpty)
  | .ins _ _ _ => none
  | .exo _ _ _ _ _ => none
  | .vi _ _ _ => none
  | .mt _ => none
  | .rf _ => none
theorem emp_of {K : PySem.W.Frag} {H : Hp} {ds : List D} {vs : List V} {A : List Addr} (l : LayL K H ds vs A) : (!vs.isEmpty) = !ds.isEmpty := by
  cases ds with
  | nil => rw [l.1]; rfl
  | cons d r => obtain ⟨v, ws, _, _, e, _⟩ := l; rw [e]; rfl
theorem truth_lay {K : PySem.W.Frag} {H : Hp} : ∀ {d : D} {v : V} {A : List Addr} {b : Bool}, Lay K H d v A → truthD d = some b → TruV K v H b := fun {d v A b} l e => by
  cases d with
  | vi => cases e
  | mt => cases e
  | rf => cases e
  | non => cases e; rw [l.1]; rfl
  | bl => cases e; rw [l.1]; rfl
  | int => cases e; rw [l.1]; rfl
  | str s =>
    have e : (if s.length ≤ sizeLine then some ((s.length : Int) != 0) else none) = some b := e
    split at e
    · cases e; rw [l.1]; exact ⟨‹_›, rfl⟩
    · cases e
  | tup => cases e; obtain ⟨_, a, vs, e1, h1, h2⟩ := l; rw [e1]; exact .inr (.inl ⟨vs, h1, (emp_of h2).symm⟩)
  | lst => cases e; obtain ⟨_, a, vs, e1, h1, h2⟩ := l; rw [e1]; exact .inl ⟨vs, h1.sq, (emp_of h2).symm⟩
  | kl => cases e; obtain ⟨_, a, vs, e1, h1, h2⟩ := l; rw [e1]; exact .inl ⟨vs, h1.sq, (emp_of h2).symm⟩
  | ml => cases e; obtain ⟨a, vs, B, e1, h1, h2, _⟩ := l; rw [e1]; exact .inl ⟨vs, SqL.of h1, (emp_of h2).symm⟩
  | ins => cases e
  | exo => cases e

/-! ### the combinators -/
def ofD (o : Option D) (ss : Sl) : R Vx := match o with
  | some d => .ok (.val d) ss
  | none => .err
def dErr : EV := fun _ => .err
def dCst (d : D) : EV := fun ss => .ok (.val d) ss
def dVar (i : Nat) : EV := fun ss => match ss[i]? with
  | some (some d) => if d.pure = true then .ok (.val d) ss else .ok (.plc i) ss
  | _ => .err
def get2 (x y : Vx) (ss : Sl) : Option (D × D) := match x.get ss, y.get ss with
  | some a, some b => some (a, b)
  | _, _ => none
def op2 (op : D → D → Option D) (x y : Vx) (ss : Sl) : R Vx := match get2 x y ss with
  | some (a, b) => ofD (op a b) ss
  | none => .err
def d2 (op : D → D → Option D) (a b : EV) : EV := fun ss => (a ss).bind fun x s1 => (b s1).bind fun y s2 => op2 op x y s2
def op1 (op : D → Option D) (x : Vx) (ss : Sl) : R Vx := match x.get ss with
  | some a => ofD (op a) ss
  | none => .err
def d1 (op : D → Option D) (a : EV) : EV := fun ss => (a ss).bind fun x s1 => op1 op x s1
/-- a value that must be a truth value, as a test -/
def asB (x : Vx) (ss : Sl) : R Bool := match x with
  | .val (.bl b) => .ok b ss
  | _ => .err
def dTB (a : EV) : TV := fun ss => (a ss).bind fun x s1 => asB x s1
/-- truth of a value -/
def asT (x : Vx) (ss : Sl) : R Bool := match x.get ss with
  | some d => match truthD d with
    | some b => .ok b ss
    | none => .err
  | none => .err
def dTr (a : EV) : TV := fun ss => (a ss).bind fun x s1 => asT x s1
def dNotT (t : TV) : TV := fun ss => (t ss).bind fun b s1 => .ok (!b) s1
def dAndT (t u : TV) : TV := fun ss => (t ss).bind fun b s1 => if b = true then u s1 else .ok false s1
def dOrT (t u : TV) : TV := fun ss => (t ss).bind fun b s1 => if b = true then .ok true s1 else u s1
/-- and, or as values: all but the last are truth values -/
def dAndE (a b : EV) : EV := fun ss => (a ss).bind fun x s1 => (asB x s1).bind fun c s2 => if c = true then b s2 else .ok (.val (.bl false)) s2
def dOrE (a b : EV) : EV := fun ss => (a ss).bind fun x s1 => (asB x s1).bind fun c s2 => if c = true then .ok (.val (.bl true)) s2 else b s2
def dNotE (a : EV) : EV := fun ss => (a ss).bind fun x s1 => (asB x s1).bind fun c s2 => .ok (.val (.bl (!c))) s2
def dIfE (t : TV) (a b : EV) : EV := fun ss => (t ss).bind fun c s1 => if c = true then a s1 else b s1
def op3 (o1 o2 : CmpOp) (c : EV) (x y : Vx) (s2 : Sl) : R Vx := match get2 x y s2 with
  | some (p, q) => match cmpD o1 p q with
    | some true => (c s2).bind fun z s3 => op2 (cmpD' o2) y z s3
    | some false => .ok (.val (.bl false)) s2
    | none => .err
  | none => .err
def dChain (o1 o2 : CmpOp) (a b c : EV) : EV := fun ss => (a ss).bind fun x s1 => (b s1).bind fun y s2 => op3 o1 o2 c x y s2
def dNilA : AV := fun ss => .ok [] ss
def dConsA (a : EV) (t : AV) : AV := fun ss => (a ss).bind fun x s1 => (t s1).bind fun xs s2 => .ok (x :: xs) s2
def pures : List Vx → Option (List D)
  | [] => some []
  | .val d :: r => if d.pure = true then match pures r with
      | some ds => some (d :: ds)
      | none => none
    else none
  | .plc _ :: _ => none
/-- what is at hand, as values; what a slot owns goes out of it -/
def takeL : List Vx → Sl → Option (List D × Sl)
  | [], ss => some ([], ss)
  | .val d :: xs, ss => match takeL xs ss with
    | some (ds, s) => some (d :: ds, s)
    | none => none
  | .plc i :: xs, ss => match ss[i]? with
    | some (some d) => match takeL xs (ss.set i none) with
      | some (ds, s) => some (d :: ds, s)
      | none => none
    | _ => none
def mkTupO (o : Option (List D × Sl)) : R Vx := match o with
  | some (ds, s) => if ds.length ≤ sizeLine then .ok (.val (.mt ds)) s else .err
  | none => .err
def mkLstO (o : Option (List D × Sl)) : R Vx := match o with
  | some (ds, s) => if ds.length ≤ sizeLine then .ok (.val (.ml ds)) s else .err
  | none => .err
def mkTup (xs : List Vx) (ss : Sl) : R Vx := match pures xs with
  | some ds => if ds.length ≤ sizeLine then .ok (.val (.tup ds)) ss else .err
  | none => mkTupO (takeL xs ss)
def mkLst (xs : List Vx) (ss : Sl) : R Vx := match pures xs with
  | some ds => if ds.length ≤ sizeLine then .ok (.val (.ml ds)) ss else .err
  | none => mkLstO (takeL xs ss)
def dTup (t : AV) : EV := fun ss => (t ss).bind mkTup
def dLst (t : AV) : EV := fun ss => (t ss).bind mkLst
/-- a fresh list stands still from now on -/
def frz (x : Vx) : Vx := match x with
  | .val (.ml ds) => if allPure ds = true then .val (.lst ds) else x
  | _ => x
def dFrz (a : EV) : EV := fun ss => (a ss).bind fun x s1 => .ok (frz x) s1

section
variable {K : PySem.W.Frag} {W : WX} {σ : St} {H : Hp} {Q : VK}
theorem s_cst {d : D} {v : V} (f : flatD d = some v) (h : tE K W (dCst d) σ H Q) : tC v σ H Q := by
  obtain ⟨ss, Af, r, h⟩ := h
  exact Wn.done r h (flat_lay f)
theorem s_var {i : Nat} (h : tE K W (dVar i) σ H Q) : tVar i σ H Q := by
  obtain ⟨ss, Af, r, h⟩ := h
  unfold dVar at h
  split at h
  · rename_i d e
    obtain ⟨v, h1, h2⟩ := r.lay i d e
    refine ⟨v, h1, ?_⟩
    split at h
    · rename_i p
      have z := h2.emp p
      rw [z] at h2
      exact Wn.done r h h2
    · exact Wn.done r h ⟨rfl, h1⟩
  · exact h.elim
theorem op2_get {op : D → D → Option D} {x y : Vx} {ss : Sl} {σ : St} {H : Hp} {F : Addr → Prop} (h : Wn (LayX K σ) K W σ H F (op2 op x y ss) Q) :
    ∃ a b d, x.get ss = some a ∧ y.get ss = some b ∧ op a b = some d ∧ Wn (LayX K σ) K W σ H F (.ok (.val d) ss) Q := by
  unfold op2 get2 at h
  split at h
  · rename_i p a b e
    split at e
    · rename_i c d f1 f2
      cases e
      cases q : op a b with
      | none => rw [q] at h; exact h.elim
      | some z => rw [q] at h; exact ⟨a, b, z, f1, f2, q, h⟩
    · cases e
  · exact h.elim
theorem s_two {op : D → D → Option D} {r : R2} {fa fb : EV} (hr : OpS K op r) (h : tE K W (d2 op fa fb) σ H Q) : tOp r (tE K W fa) (tE K W fb) σ H Q := by
  obtain ⟨ss, Af, rp, h⟩ := h
  refine bindW rp h fun x v H1 s1 Af1 B1 e1 r1 l1 n1 d1 st1 h => ?_
  refine bindW r1 h fun y w H2 s2 Af2 B2 e2 r2 l2 n2 d2 st2 h => ?_
  obtain ⟨a, b, d, g1, g2, g3, h⟩ := op2_get h
  obtain ⟨A1, q1⟩ := (l1.stay st2 d1).read r2 g1
  obtain ⟨A2, q2⟩ := l2.read r2 g2
  exact hr H2 a b d v w A1 A2 Q q1 q2 g3 (Wn.fn r2 h)
theorem s_tb {f : EV} {Q : Bool → Hp → Prop} (h : tT K W (dTB f) σ H Q) : tE K W f σ H fun x H' => ∃ k, x = .bl k ∧ Q k H' := by
  obtain ⟨ss, Af, rp, h⟩ := h
  refine bindW rp h fun x v H1 s1 Af1 B1 e1 r1 l1 n1 d1 st1 h => ?_
  unfold asB at h
  split at h
  · rename_i b
    exact ⟨b, l1.1, Wn.done r1 h ⟨rfl, rfl⟩⟩
  · exact h.elim
theorem s_tr {f : EV} {Q : Bool → Hp → Prop} (h : tT K W (dTr f) σ H Q) : tE K W f σ H fun x H' => ∃ k, TruV K x H' k ∧ Q k H' := by
  obtain ⟨ss, Af, rp, h⟩ := h
  refine bindW rp h fun x v H1 s1 Af1 B1 e1 r1 l1 n1 d1 st1 h => ?_
  unfold asT at h
  split at h
  · rename_i d g
    split at h
    · rename_i b q
      obtain ⟨A, l⟩ := l1.read r1 g
      exact ⟨b, truth_lay l q, Wn.done r1 h ⟨rfl, rfl⟩⟩
    · exact h.elim
  · exact h.elim
theorem s_not {t : TV} {Q : Bool → Hp → Prop} (h : tT K W (dNotT t) σ H Q) : tNot (tT K W t) σ H Q := by
  obtain ⟨ss, Af, rp, h⟩ := h
  refine bindW rp h fun x v H1 s1 Af1 B1 e1 r1 l1 n1 d1 st1 h => ?_
  obtain ⟨q, _⟩ := l1
  subst q
  exact Wn.done r1 h ⟨rfl, rfl⟩
theorem s_and {t u : TV} {Q : Bool → Hp → Prop} (h : tT K W (dAndT t u) σ H Q) : tAnd (tT K W t) (tT K W u) σ H Q := by
  obtain ⟨ss, Af, rp, h⟩ := h
  refine bindW rp h fun x v H1 s1 Af1 B1 e1 r1 l1 n1 d1 st1 h => ?_
  obtain ⟨q, _⟩ := l1
  subst q
  cases v with
  | true => exact ⟨s1, Af1, r1, h⟩
  | false => exact Wn.done r1 h ⟨rfl, rfl⟩
theorem s_or {t u : TV} {Q : Bool → Hp → Prop} (h : tT K W (dOrT t u) σ H Q) : tOr (tT K W t) (tT K W u) σ H Q := by
  obtain ⟨ss, Af, rp, h⟩ := h
  refine bindW rp h fun x v H1 s1 Af1 B1 e1 r1 l1 n1 d1 st1 h => ?_
  obtain ⟨q, _⟩ := l1
  subst q
  cases v with
  | false => exact ⟨s1, Af1, r1, h⟩
  | true => exact Wn.done r1 h ⟨rfl, rfl⟩
theorem asB_get {γ δ : Type} {LY : Hp → γ → δ → List Addr → Prop} {x : Vx} {ss : Sl} {F : Addr → Prop} {k : Bool → Sl → R γ} {Q : δ → Hp → Prop} (h : Wn LY K W σ H F ((asB x ss).bind k) Q) : ∃ b, x = .val (.bl b) ∧ Wn LY K W σ H F (k b ss) Q := by
  unfold asB at h
  split at h
  · rename_i b; exact ⟨b, rfl, h⟩
  · exact h.elim
theorem s_andE {fa fb : EV} (h : tE K W (dAndE fa fb) σ H Q) : tAndV (tE K W fa) (tE K W fb) σ H Q := by
  obtain ⟨ss, Af, rp, h⟩ := h
  refine bindW rp h fun x v H1 s1 Af1 B1 e1 r1 l1 n1 d1 st1 h => ?_
  obtain ⟨b, e, h⟩ := asB_get h
  subst e
  refine ⟨b, l1.1, ?_⟩
  cases b with
  | true => exact ⟨s1, Af1, r1, h⟩
  | false => exact Wn.done r1 h ⟨rfl, rfl⟩
theorem s_orE {fa fb : EV} (h : tE K W (dOrE fa fb) σ H Q) : tOrV (tE K W fa) (tE K W fb) σ H Q := by
  obtain ⟨ss, Af, rp, h⟩ := h
  refine bindW rp h fun x v H1 s1 Af1 B1 e1 r1 l1 n1 d1 st1 h => ?_
  obtain ⟨b, e, h⟩ := asB_get h
  subst e
  refine ⟨b, l1.1, ?_⟩
  cases b with
  | false => exact ⟨s1, Af1, r1, h⟩
  | true => exact Wn.done r1 h ⟨rfl, rfl⟩
theorem s_notE {fa : EV} (h : tE K W (dNotE fa) σ H Q) : tNotV (tE K W fa) σ H Q := by
  obtain ⟨ss, Af, rp, h⟩ := h
  refine bindW rp h fun x v H1 s1 Af1 B1 e1 r1 l1 n1 d1 st1 h => ?_
  obtain ⟨b, e, h⟩ := asB_get h
  subst e
  exact ⟨b, l1.1, Wn.done r1 h ⟨rfl, rfl⟩⟩
theorem s_ifE {t : TV} {fa fb : EV} (h : tE K W (dIfE t fa fb) σ H Q) : tIf (tT K W t) (tE K W fa) (tE K W fb) σ H Q := by
  obtain ⟨ss, Af, rp, h⟩ := h
  refine bindW rp h fun x v H1 s1 Af1 B1 e1 r1 l1 n1 d1 st1 h => ?_
  obtain ⟨q, _⟩ := l1
  subst q
  cases v with
  | true => exact ⟨s1, Af1, r1, h⟩
  | false => exact ⟨s1, Af1, r1, h⟩
theorem s_chain {o1 o2 : CmpOp} {fa fb fc : EV} (h : tE K W (dChain o1 o2 fa fb fc) σ H Q) : tChain (rCmp K o1) (rCmp K o2) (tE K W fa) (tE K W fb) (tE K W fc) σ H Q := by
  obtain ⟨ss, Af, rp, h⟩ := h
  refine bindW rp h fun x v H1 s1 Af1 B1 e1 r1 l1 n1 d1 st1 h => ?_
  refine bindW r1 h fun y w H2 s2 Af2 B2 e2 r2 l2 n2 d2 st2 h => ?_
  unfold op3 get2 at h
  split at h
  · rename_i pq a b e
    split at e
    · rename_i c d f1 f2
      cases e
      obtain ⟨A1, q1⟩ := (l1.stay st2 d1).read r2 f1
      obtain ⟨A2, q2⟩ := l2.read r2 f2
      split at h
      · rename_i z
        refine ops_cmp o1 H2 a b (.bl true) v w A1 A2 _ q1 q2 (by unfold cmpD'; rw [z]; rfl) ⟨fun u l => ?_, fun _ _ _ z => (nomatch z), fun _ _ _ z => (nomatch z)⟩
        refine ⟨true, l.1, ?_⟩
        rw [if_pos rfl]
        refine bindW r2 h fun z' w' H3 s3 Af3 B3 e3 r3 l3 n3 d3 st3 h => ?_
        obtain ⟨a', b', d', g1, g2, g3, h⟩ := op2_get h
        obtain ⟨A3, q3⟩ := (l2.stay st3 d2).read r3 g1
        obtain ⟨A4, q4⟩ := l3.read r3 g2
        exact ops_cmp o2 H3 a' b' d' w w' A3 A4 Q q3 q4 g3 (Wn.fn r3 h)
      · rename_i z
        refine ops_cmp o1 H2 a b (.bl false) v w A1 A2 _ q1 q2 (by unfold cmpD'; rw [z]; rfl) ⟨fun u l => ?_, fun _ _ _ z => (nomatch z), fun _ _ _ z => (nomatch z)⟩
        refine ⟨false, l.1, ?_⟩
        rw [if_neg Bool.false_ne_true]
        exact Wn.done r2 h ⟨rfl, rfl⟩
      · exact h.elim
    · cases e
  · exact h.elim
theorem s_nil {Q : List V → Hp → Prop} (h : tA K W dNilA σ H Q) : tNil σ H Q := by
  obtain ⟨ss, Af, r, h⟩ := h
  exact Wn.done r h ⟨rfl, rfl⟩
theorem s_cons {f : EV} {g : AV} {Q : List V → Hp → Prop} (h : tA K W (dConsA f g) σ H Q) : tCons (tE K W f) (tA K W g) σ H Q := by
  obtain ⟨ss, Af, rp, h⟩ := h
  refine bindB Stp.refl (fun _ z => z) rp h fun x v H1 s1 Af1 B1 e1 r1 l1 n1 d1 st1 h => ?_
  refine bindB st1 (fun _ z => .inl z) r1 h fun xs vs H2 s2 Af2 B2 e2 r2 l2 n2 d2 st2 h => ?_
  have l1' := l1.stay st2 d1
  have o1 := l1.out st2 d1
  have st : Stp H (Own Af) H2 (fun b => Own Af2 b ∨ b ∈ B2) := st1.trans st2 fun _ z => .inl z
  refine h _ _ ⟨Af2, B1 ++ B2, r2, ⟨v, vs, B1, B2, rfl, rfl, l1', l2⟩, ?_, fun a ha => ?_, ⟨st.kp, st.keep, fun b hb => ?_⟩⟩
  · refine List.nodup_append.mpr ⟨n1, n2, fun a ha b hb e => ?_⟩
    subst e
    exact o1 a ha (.inr hb)
  · rcases List.mem_append.mp ha with q | q
    · exact fun z => o1 a q (.inl z)
    · exact d2 a q
  · rcases hb with q | q
    · exact st.new b (.inl q)
    · rcases List.mem_append.mp q with q | q
      · exact st1.new b (.inr q)
      · exact st.new b (.inr q)
theorem pures_lay : ∀ {xs : List Vx} {ds : List D} {vs : List V} {B : List Addr}, pures xs = some ds → LayXL K σ H xs vs B → LayL K H ds vs [] ∧ B = []
  | [], ds, vs, B, e, l => by cases e; rw [l.1, l.2]; exact ⟨LayL.nil, rfl⟩
  | .plc _ :: _, ds, vs, B, e, l => by cases e
  | .val d :: r, ds, vs, B, e, l => by
    obtain ⟨v, ws, B1, B2, e1, e2, l1, l2⟩ := l
    unfold pures at e
    split at e
    · rename_i p
      cases q : pures r with
      | none => rw [q] at e; cases e
      | some es =>
        rw [q] at e; cases e
        obtain ⟨q1, q2⟩ := pures_lay q l2
        have l1 : Lay K H d v B1 := l1
        have z := l1.emp p
        subst z; subst q2
        rw [e1]
        exact ⟨LayL.cons0 l1 q1, e2⟩
    · cases e
theorem take_ok : ∀ {xs : List Vx} {ds : List D} {vs : List V} {B : List Addr} {ss s1 : Sl} {Af : Nat → List Addr}, Rep K H ss σ Af → LayXL K σ H xs vs B → B.Nodup → (∀ a ∈ B, ¬ Own Af a) → takeL xs ss = some (ds, s1) →
    ∃ Af1 B1, Rep K H s1 σ Af1 ∧ LayL K H ds vs B1 ∧ B1.Nodup ∧ (∀ a ∈ B1, ¬ Own Af1 a) ∧ (∀ b, Own Af1 b → Own Af b) ∧ ∀ b ∈ B1, Own Af b ∨ b ∈ B
  | [], ds, vs, B, ss, s1, Af, r, l, n, d, e => by
    cases e
    obtain ⟨e1, e2⟩ := l
    subst e1; subst e2
    exact ⟨Af, [], r, LayL.nil, n, d, fun _ z => z, fun b z => nomatch z⟩
  | .val d0 :: xs, ds, vs, B, ss, s1, Af, r, l, n, d, e => by
    obtain ⟨v, ws, B1, B2, e1, e2, l1, l2⟩ := l
    subst e1; subst e2
    obtain ⟨n1, n2, n3⟩ := List.nodup_append.mp n
    unfold takeL at e
    split at e
    · rename_i ds' s' q
      cases e
      obtain ⟨Af1, B3, r1, l3, m1, m2, m3, m4⟩ := take_ok r l2 n2 (fun a ha => d a (List.mem_append_right _ ha)) q
      refine ⟨Af1, B1 ++ B3, r1, LayL.cons (show Lay K H d0 v B1 from l1) l3, List.nodup_append.mpr ⟨n1, m1, fun a ha b hb z => ?_⟩, fun a ha => ?_, m3, fun b hb => ?_⟩
      · subst z
        rcases m4 a hb with y | y
        · exact d a (List.mem_append_left _ ha) y
        · exact n3 a ha a y rfl
      · rcases List.mem_append.mp ha with y | y
        · exact fun z => d a (List.mem_append_left _ y) (m3 a z)
        · exact m2 a y
      · rcases List.mem_append.mp hb with y | y
        · exact .inr (List.mem_append_left _ y)
        · exact (m4 b y).imp id (List.mem_append_right _)
    · cases e
  | .plc i :: xs, ds, vs, B, ss, s1, Af, r, l, n, d, e => by
    obtain ⟨v, ws, B1, B2, e1, e2, l1, l2⟩ := l
    obtain ⟨z1, z2⟩ := l1
    subst e1; subst z1
    have e2 : B = B2 := e2
    subst e2
    unfold takeL at e
    split at e
    · rename_i d0 g
      split at e
      · rename_i ds' s' q
        cases e
        obtain ⟨v', w1, w2⟩ := r.lay i d0 g
        rw [z2] at w1; cases w1
        obtain ⟨Af1, B3, r1, l3, m1, m2, m3, m4⟩ := take_ok (Rep.clear i r) l2 n (fun a ha z => d a ha (own_clear z)) q
        have out : ∀ a, a ∈ Af i → ¬ Own (put Af i []) a := fun a ha ⟨j, hj⟩ => by
          by_cases z : j = i
          · subst z; rw [put_self] at hj; exact nomatch hj
          · rw [put_ne z] at hj; exact z (r.dis j i a hj ha)
        refine ⟨Af1, Af i ++ B3, r1, LayL.cons w2 l3, List.nodup_append.mpr ⟨r.nd i, m1, fun a ha b hb z => ?_⟩, fun a ha => ?_, fun b hb => own_clear (m3 b hb), fun b hb => ?_⟩
        · subst z
          rcases m4 a hb with y | y
          · exact out a ha y
          · exact d a y ⟨i, ha⟩
        · rcases List.mem_append.mp ha with y | y
          · exact fun z => out a y (m3 a z)
          · exact m2 a y
        · rcases List.mem_append.mp hb with y | y
          · exact .inl ⟨i, y⟩
          · exact (m4 b y).imp own_clear id
      · cases e
    · cases e
theorem s_tup {g : AV} (h : tE K W (dTup g) σ H Q) : tTup (tA K W g) σ H Q := by
  obtain ⟨ss, Af, rp, h⟩ := h
  refine bindB Stp.refl (fun _ z => z) rp h fun xs vs H1 s1 Af1 B1 e1 r1 l1 n1 d1 st1 h => ?_
  unfold mkTup at h
  split at h
  · rename_i ds q
    split at h
    · obtain ⟨q1, _⟩ := pures_lay q l1
      exact ⟨by rw [LayL.len q1]; assumption, fun p hp => (Wn.fn r1 (h.rebase st1 fun b hb => .inl hb)).2.2 ds vs p rfl hp q1⟩
    · exact h.elim
  · unfold mkTupO at h
    split at h
    rotate_left
    · exact h.elim
    rename_i ds s2 q
    split at h
    rotate_left
    · exact h.elim
    obtain ⟨Af2, B2, r2, l2, m1, m2, m3, m4⟩ := take_ok r1 l1 n1 d1 q
    refine ⟨by rw [LayL.len l2]; assumption, fun p hp => ?_⟩
    have np : ∀ a ∈ B2, a ≠ p := fun a ha z => by
      obtain ⟨o, eo, _⟩ := LayL.mu ds vs B2 l2 a ha
      rw [z, hp] at eo; cases eo
    refine h _ _ ⟨Af2, B2, r2.laid hp, ⟨p, vs, rfl, SqT.of upd_same, LayL.step (Kp.new hp) ds vs B2 (fun a ha o eo => by rw [upd_ne (np a ha)]; exact eo) l2⟩, m1, m2, ?_⟩
    refine (st1.trans (Stp.laid (F := fun b => Own Af1 b ∨ b ∈ B1) hp) fun _ z => z).sub fun b hb => ?_
    rcases hb with hb | hb
    · exact .inl (.inl (m3 b hb))
    · exact .inl (m4 b hb)
theorem s_lst {g : AV} (h : tE K W (dLst g) σ H Q) : tLst (tA K W g) σ H Q := by
  obtain ⟨ss, Af, rp, h⟩ := h
  refine bindB Stp.refl (fun _ z => z) rp h fun xs vs H1 s1 Af1 B1 e1 r1 l1 n1 d1 st1 h => ?_
  unfold mkLst at h
  split at h
  · rename_i ds q
    split at h
    · obtain ⟨q1, _⟩ := pures_lay q l1
      exact ⟨by rw [LayL.len q1]; assumption, fun p hp => (Wn.fn r1 (h.rebase st1 fun b hb => .inl hb)).2.1 ds vs p rfl hp q1⟩
    · exact h.elim
  · unfold mkLstO at h
    split at h
    rotate_left
    · exact h.elim
    rename_i ds s2 q
    split at h
    rotate_left
    · exact h.elim
    obtain ⟨Af2, B2, r2, l2, m1, m2, m3, m4⟩ := take_ok r1 l1 n1 d1 q
    refine ⟨by rw [LayL.len l2]; assumption, fun p hp => ?_⟩
    have np : ∀ a ∈ B2, a ≠ p := fun a ha z => by
      obtain ⟨o, eo, _⟩ := LayL.mu ds vs B2 l2 a ha
      rw [z, hp] at eo; cases eo
    refine h _ _ ⟨Af2, p :: B2, r2.laid hp, ⟨p, vs, B2, rfl, upd_same, LayL.step (Kp.new hp) ds vs B2 (fun a ha o eo => by rw [upd_ne (np a ha)]; exact eo) l2, rfl⟩, List.nodup_cons.mpr ⟨fun z => np p z rfl, m1⟩, fun a ha => ?_, ?_⟩
    · rcases List.mem_cons.mp ha with z | z
      · rw [z]; exact r2.fresh hp
      · exact m2 a z
    · refine (st1.trans (Stp.laid (F := fun b => Own Af1 b ∨ b ∈ B1) hp) fun _ z => z).sub fun b hb => ?_
      rcases hb with hb | hb
      · exact .inl (.inl (m3 b hb))
      · rcases List.mem_cons.mp hb with z | z
        · exact .inr z
        · exact .inl (m4 b z)
end

/-! ### a list stands still from now on -/
section
variable {X : Cx} {pins : List (Addr × Obj)} {σ : St} {H : Hp} {s : Shared}
theorem inv_frz {a : Addr} {xs : List V} (I : Inv X pins σ H s) (h : H a = some (.lst xs)) : ∃ o, Inv X pins σ (upd H a (.frz o (.lst xs))) s := by
  obtain ⟨z, its, n, r, e⟩ := I.hok a _ h
  refine ⟨{ cls := .type "list", data := .seq its.toArray n }, ?_⟩
  have nn : ∀ {b : Addr}, H b = none → b ≠ a := fun q w => by subst w; rw [h] at q; cases q
  have nt : ∀ {b : Addr} {u : HO}, H b = some u → (∀ ys, u ≠ .lst ys) → b ≠ a := fun q n w => by subst w; rw [h] at q; cases q; exact n _ rfl
  refine ⟨I.ok, I.os, I.bare, ⟨I.base.keep, I.base.slot, fun b o q1 q2 q3 => ?_, I.base.there, fun b ys q => ?_, fun b o u q => ?_, fun b ps q => ?_⟩, I.loc, I.cell, ?_, fun x c q => ?_, fun p hp => ?_, fun b u q => ?_, I.len⟩
  · have := I.base.free b o q1 q2 q3
    rw [upd_ne (nn this)]; exact this
  · have := I.base.tups b ys q
    rw [upd_ne (nt this fun _ z => nomatch z)]; exact this
  · have := I.base.frzs b o u q
    rw [upd_ne (nt this fun _ z => nomatch z)]; exact this
  · obtain ⟨m, this⟩ := I.base.tbls b ps q
    exact ⟨m, by rw [upd_ne (nt this fun _ z => nomatch z)]; exact this⟩
  · rw [upd_ne (nn I.free)]; exact I.free
  · rw [upd_ne (nn (I.freeC x c q))]; exact I.freeC x c q
  · obtain ⟨q1, q2, q3⟩ := I.pin p hp
    exact ⟨q1, by rw [upd_ne (nn q2)]; exact q2, q3⟩
  · have keepO : ∀ c o', H c = some o' → (∀ ys, o' ≠ .lst ys) → upd H a (.frz { cls := .type "list", data := .seq its.toArray n } (.lst xs)) c = some o' := fun c o' q n => by rw [upd_ne (nt q n)]; exact q
    by_cases hb : b = a
    · subst hb
      rw [upd_same] at q; cases q
      exact ⟨e, z, its, n, r, e⟩
    · rw [upd_ne hb] at q
      exact (I.hok b u q).stay (fun _ _ _ q => q) (fun c q => keepO c _ q fun _ z => nomatch z) fun c ys q => keepO c _ q fun _ z => nomatch z
theorem pe_frz {e : Expr} {t : TE} (h : PE X e t) : PE X e (fun σ H Q => t σ H fun v H' => Q v H' ∨ ∃ a xs, v = .ref a ∧ H' a = some (.lst xs) ∧ ∀ o, Q v (upd H' a (.frz o (.lst xs)))) := by
  refine ⟨fun pins s σ H Q I hw => ?_⟩
  refine thn (h.run pins s σ H _ I hw) fun u s1 ⟨v, H1, I1, r1, q1⟩ => ?_
  rcases q1 with q | ⟨a, xs, e1, e2, q⟩
  · exact ⟨v, H1, I1, r1, q⟩
  · obtain ⟨o, J⟩ := inv_frz I1 e2
    exact ⟨v, _, J, r1, q o⟩
end
section
variable {K : PySem.W.Frag} {W : WX} {σ : St} {H : Hp} {Q : VK}
theorem s_frz {f : EV} (h : tE K W (dFrz f) σ H Q) : tE K W f σ H fun v H' => Q v H' ∨ ∃ a xs, v = .ref a ∧ H' a = some (.lst xs) ∧ ∀ o, Q v (upd H' a (.frz o (.lst xs))) := by
  obtain ⟨ss, Af, rp, h⟩ := h
  refine bindB Stp.refl (fun _ z => z) rp h fun x v H1 s1 Af1 B1 e1 r1 l1 n1 d1 st1 h => ?_
  unfold frz at h
  split at h
  · rename_i ds
    split at h
    · rename_i p
      obtain ⟨a, vs, B, e2, h1, h2, e3⟩ := l1
      have z := layL_pure p h2
      subst z; subst e3
      refine .inr ⟨a, vs, e2, h1, fun o => ?_⟩
      have nza : ¬ ZS.z a := rp.nzS st1 (.inr List.mem_cons_self)
      have hk : Stp H1 (fun b => Own Af1 b ∨ b ∈ [a]) (upd H1 a (.frz o (.lst vs))) (fun b => Own Af1 b ∨ b ∈ [a]) := Stp.wrote (.inr (by simp)) h1 (.inl ⟨_, rfl⟩) nza
      have na : ¬ Own Af1 a := d1 a (by simp)
      have hk2 : Stp H1 (fun b => b = a) (upd H1 a (.frz o (.lst vs))) (fun b => b = a) := Stp.wrote rfl h1 (.inl ⟨_, rfl⟩) nza
      refine h _ _ ⟨Af1, [], r1.step hk2 fun b hb e => by subst e; exact na hb, ⟨rfl, a, vs, e2, ⟨o, upd_same⟩, LayL.keep hk2.kp h2⟩, List.nodup_nil, fun a z => (nomatch z), ?_⟩
      exact (st1.trans hk fun _ z => z).sub fun b hb => hb.elim .inl fun z => nomatch z
    · exact .inl (h v H1 ⟨Af1, B1, r1, l1, n1, d1, st1⟩)
  · exact .inl (h v H1 ⟨Af1, B1, r1, l1, n1, d1, st1⟩)
end
end Dn

set_option Elab.async false
set_option linter.all false
set_option maxRecDepth 100000
set_option maxHeartbeats 2000000
/-! Dn5: functions: what a call does; builtins. -/
namespace Dn
open PySem L2
variable [ZS]

inductive RF where
  | ok (d : D) (as : List D) | exc (e : Ex) (as : List D) | err
abbrev FV := List D → RF

def GotF (K : PySem.W.Frag) (vs : List V) (H0 : Hp) (F0 : Addr → Prop) (H : Hp) (as : List D) (d : D) (v : V) : Prop :=
  ∃ Af B, Rep K H (as.map some) (vs.map some) Af ∧ Lay K H d v B ∧ B.Nodup ∧ (∀ a ∈ B, ¬ Own Af a) ∧ Stp H0 F0 H (fun b => Own Af b ∨ b ∈ B)
def GotFE (K : PySem.W.Frag) (vs : List V) (H0 : Hp) (F0 : Addr → Prop) (H : Hp) (as : List D) (e : Ex) (cls : Value) (x : Option Addr) : Prop :=
  ∃ Af, Rep K H (as.map some) (vs.map some) Af ∧ ExL K H e cls x ∧ Stp H0 F0 H (Own Af)
def WnF (K : PySem.W.Frag) (vs : List V) (H0 : Hp) (F0 : Addr → Prop) (r : RF) (Q : VK) (E : XK) : Prop := match r with
  | .ok d as => ∀ v H, GotF K vs H0 F0 H as d v → Q v H
  | .exc e as => ∀ cls x H, GotFE K vs H0 F0 H as e cls x → E cls x H
  | .err => False
/-- the promise of a def of n parameters that does as F says -/
def spD (K : PySem.W.Frag) (n : Nat) (F : FV) : Sp := fun vs H Q E =>
  ∃ ds Af, ds.length = n ∧ Rep K H (ds.map some) (vs.map some) Af ∧ WnF K vs H (Own Af) (F ds) Q E
theorem spD_len {K : PySem.W.Frag} {n : Nat} {F : FV} {vs : List V} {H : Hp} {Q : VK} {E : XK} (h : spD K n F vs H Q E) : vs.length = n := by
  obtain ⟨ds, Af, e, r, _⟩ := h
  have := r.len
  rw [List.length_map, List.length_map] at this
  omega

def getAll : List Vx → Sl → Option (List D)
  | [], _ => some []
  | x :: xs, ss => match x.get ss, getAll xs ss with
    | some d, some ds => some (d :: ds)
    | _, _ => none
def plcs : List Vx → List Nat
  | [] => []
  | .plc i :: r => i :: plcs r
  | .val _ :: r => plcs r
def wb : List Vx → List D → Sl → Sl
  | .plc i :: xs, a :: as, ss => wb xs as (ss.set i (some a))
  | .val _ :: xs, _ :: as, ss => wb xs as ss
  | _, _, ss => ss
def callF (n : Nat) (F : FV) (xs : List Vx) (ss : Sl) : R Vx := match getAll xs ss with
  | some ds => if ds.length = n ∧ (plcs xs).Nodup then match F ds with
      | .ok d as => .ok (.val d) (wb xs as ss)
      | .exc e as => .exc e (wb xs as ss)
      | .err => .err
    else .err
  | none => .err
def dCall (n : Nat) (F : FV) (g : AV) : EV := fun ss => (g ss).bind (callF n F)

/-- where the slot i is among the arguments -/
def kOf : List Vx → Nat → Option Nat
  | [], _ => none
  | .plc j :: r, i => if j = i then some 0 else (kOf r i).map (· + 1)
  | .val _ :: r, i => (kOf r i).map (· + 1)

theorem kOf_some : ∀ {xs : List Vx} {i k : Nat}, kOf xs i = some k → xs[k]? = some (.plc i)
  | [], _, _, e => by cases e
  | .plc j :: r, i, k, e => by
    unfold kOf at e
    by_cases h : j = i
    · rw [if_pos h] at e; cases e; subst h; rfl
    · rw [if_neg h] at e
      cases q : kOf r i with
      | none => rw [q] at e; cases e
      | some m => rw [q] at e; cases e; simpa using kOf_some q
  | .val _ :: r, i, k, e => by
    unfold kOf at e
    cases q : kOf r i with
    | none => rw [q] at e; cases e
    | some m => rw [q] at e; cases e; simpa using kOf_some q
theorem mem_plcs : ∀ {xs : List Vx} {i k : Nat}, xs[k]? = some (.plc i) → i ∈ plcs xs
  | [], _, _, e => by simp at e
  | .plc j :: r, i, 0, e => by simp at e; subst e; exact List.mem_cons_self
  | .val _ :: r, i, 0, e => by simp at e
  | .plc j :: r, i, k + 1, e => List.mem_cons_of_mem _ (mem_plcs (k := k) (by simpa using e))
  | .val _ :: r, i, k + 1, e => mem_plcs (xs := r) (k := k) (by simpa using e)
theorem kOf_none : ∀ {xs : List Vx} {i : Nat}, kOf xs i = none → i ∉ plcs xs
  | [], _, _ => fun z => nomatch z
  | .plc j :: r, i, e => by
    unfold kOf at e
    by_cases h : j = i
    · rw [if_pos h] at e; cases e
    · rw [if_neg h] at e
      cases q : kOf r i with
      | some m => rw [q] at e; cases e
      | none =>
        intro z
        rcases List.mem_cons.mp z with z | z
        · exact h z.symm
        · exact kOf_none q z
  | .val _ :: r, i, e => by
    unfold kOf at e
    cases q : kOf r i with
    | some m => rw [q] at e; cases e
    | none => exact kOf_none (xs := r) q
theorem kOf_of : ∀ {xs : List Vx} {i k : Nat}, (plcs xs).Nodup → xs[k]? = some (.plc i) → kOf xs i = some k
  | [], _, _, _, e => by simp at e
  | .plc j :: r, i, 0, _, e => by
    simp at e; subst e
    unfold kOf; rw [if_pos rfl]
  | .val _ :: r, i, 0, _, e => by simp at e
  | .plc j :: r, i, k + 1, nd, e => by
    have nd' := List.nodup_cons.mp nd
    have e' : r[k]? = some (.plc i) := by simpa using e
    have h : j ≠ i := fun z => by subst z; exact nd'.1 (mem_plcs e')
    unfold kOf
    rw [if_neg h, kOf_of nd'.2 e']
    rfl
  | .val _ :: r, i, k + 1, nd, e => by
    have e' : r[k]? = some (.plc i) := by simpa using e
    unfold kOf
    rw [kOf_of (xs := r) nd e']
    rfl
theorem wb_len : ∀ (xs : List Vx) (as : List D) (ss : Sl), (wb xs as ss).length = ss.length
  | [], _, _ => rfl
  | .plc i :: xs, [], ss => rfl
  | .val _ :: xs, [], ss => rfl
  | .plc i :: xs, a :: as, ss => by unfold wb; rw [wb_len, List.length_set]
  | .val _ :: xs, _ :: as, ss => by unfold wb; rw [wb_len]
theorem wb_get : ∀ (xs : List Vx) (as : List D) (ss : Sl) (i : Nat), (plcs xs).Nodup → as.length = xs.length → i < ss.length →
    (wb xs as ss)[i]? = match kOf xs i with
      | some k => (as[k]?).map some
      | none => ss[i]?
  | [], as, ss, i, _, hl, _ => by
    cases as with
    | nil => rfl
    | cons a r => simp at hl
  | .plc j :: xs, [], ss, i, _, hl, _ => by simp at hl
  | .val _ :: xs, [], ss, i, _, hl, _ => by simp at hl
  | .plc j :: xs, a :: as, ss, i, nd, hl, hi => by
    have nd' := List.nodup_cons.mp nd
    unfold wb
    rw [wb_get xs as _ i nd'.2 (by simpa using hl) (by rw [List.length_set]; exact hi)]
    have key : kOf (.plc j :: xs) i = if j = i then some 0 else (kOf xs i).map (· + 1) := rfl
    rw [key]
    by_cases h : j = i
    · subst h
      rw [if_pos rfl]
      cases q : kOf xs j with
      | some k => exact absurd (mem_plcs (kOf_some q)) nd'.1
      | none =>
        show (ss.set j (some a))[j]? = _
        rw [List.getElem?_set_self hi]
        rfl
    · rw [if_neg h]
      cases q : kOf xs i with
      | some k => simp
      | none =>
        show (ss.set j (some a))[i]? = _
        rw [List.getElem?_set_ne h]
        rfl
  | .val _ :: xs, a :: as, ss, i, nd, hl, hi => by
    unfold wb
    rw [wb_get xs as ss i nd (by simpa using hl) hi]
    rename_i d0
    have key : kOf (.val d0 :: xs) i = (kOf xs i).map (· + 1) := rfl
    rw [key]
    cases q : kOf xs i with
    | some k => simp
    | none => rfl

section
variable {K : PySem.W.Frag} {σ : St} {H : Hp} {ss : Sl} {Af : Nat → List Addr}
/-- the arguments one by one -/
theorem argsB : ∀ {xs : List Vx} {vs : List V} {B : List Addr}, LayXL K σ H xs vs B → vs.length = xs.length ∧ (B.Nodup → ∃ Bf : Nat → List Addr, (∀ k x, xs[k]? = some x → ∃ v, vs[k]? = some v ∧ LayX K σ H x v (Bf k)) ∧ (∀ k a, a ∈ Bf k → a ∈ B) ∧ (∀ k, (Bf k).Nodup) ∧
    (∀ j k a, a ∈ Bf j → a ∈ Bf k → j = k) ∧ ∀ a ∈ B, ∃ k, a ∈ Bf k)
  | [], vs, B, l => by
    obtain ⟨e1, e2⟩ := l
    subst e1; subst e2
    exact ⟨rfl, fun _ => ⟨fun _ => [], fun k x e => by simp at e, fun _ _ z => z, fun _ => List.nodup_nil, fun _ _ _ z => (nomatch z), fun _ z => nomatch z⟩⟩
  | x :: xs, vs, B, l => by
    obtain ⟨v, ws, B1, B2, e1, e2, l1, l2⟩ := l
    subst e1; subst e2
    obtain ⟨hl, hB⟩ := argsB l2
    refine ⟨by simp [hl], fun nd => ?_⟩
    obtain ⟨n1, n2, n3⟩ := List.nodup_append.mp nd
    obtain ⟨Bf, b1, b2, b3, b4, b5⟩ := hB n2
    refine ⟨fun k => match k with
      | 0 => B1
      | k + 1 => Bf k, fun k y e => ?_, fun k a h => ?_, fun k => ?_, fun j k a h1 h2 => ?_, fun a h => ?_⟩
    · cases k with
      | zero => simp at e; subst e; exact ⟨v, rfl, l1⟩
      | succ k =>
        obtain ⟨u, q1, q2⟩ := b1 k y (by simpa using e)
        exact ⟨u, by simpa using q1, q2⟩
    · cases k with
      | zero => exact List.mem_append_left _ h
      | succ k => exact List.mem_append_right _ (b2 k a h)
    · cases k with
      | zero => exact n1
      | succ k => exact b3 k
    · cases j with
      | zero =>
        cases k with
        | zero => rfl
        | succ k => exact absurd rfl (n3 a h1 a (b2 k a h2))
      | succ j =>
        cases k with
        | zero => exact absurd rfl (n3 a h2 a (b2 j a h1))
        | succ k => rw [b4 j k a h1 h2]
    · rcases List.mem_append.mp h with h | h
      · exact ⟨0, h⟩
      · obtain ⟨k, hk⟩ := b5 a h
        exact ⟨k + 1, hk⟩
theorem getAll_len : ∀ {xs : List Vx} {ds : List D}, getAll xs ss = some ds → ds.length = xs.length
  | [], ds, e => by cases e; rfl
  | x :: xs, ds, e => by
    unfold getAll at e
    cases q1 : x.get ss with
    | none => rw [q1] at e; cases e
    | some d =>
      cases q2 : getAll xs ss with
      | none => rw [q1, q2] at e; cases e
      | some es => rw [q1, q2] at e; cases e; simp [getAll_len q2]
theorem getAll_at : ∀ {xs : List Vx} {ds : List D} {k : Nat} {d : D}, getAll xs ss = some ds → ds[k]? = some d → ∃ x, xs[k]? = some x ∧ x.get ss = some d
  | [], ds, k, d, e, h => by cases e; simp at h
  | x :: xs, ds, k, d, e, h => by
    unfold getAll at e
    cases q1 : x.get ss with
    | none => rw [q1] at e; cases e
    | some d0 =>
      cases q2 : getAll xs ss with
      | none => rw [q1, q2] at e; cases e
      | some es =>
        rw [q1, q2] at e; cases e
        cases k with
        | zero => simp at h; subst h; exact ⟨x, rfl, q1⟩
        | succ k =>
          obtain ⟨y, z1, z2⟩ := getAll_at (k := k) (d := d) q2 (by simpa using h)
          exact ⟨y, by simpa using z1, z2⟩
/-- the callee's view -/
def argF (xs : List Vx) (Af Bf : Nat → List Addr) : Nat → List Addr := fun k => match xs[k]? with
  | some (.plc i) => Af i
  | some (.val _) => Bf k
  | none => []
theorem args_rep {xs : List Vx} {ds : List D} {vs : List V} {B : List Addr} (r : Rep K H ss σ Af) (l : LayXL K σ H xs vs B) (nd : B.Nodup) (dj : ∀ a ∈ B, ¬ Own Af a) (hz : ∀ a ∈ B, ¬ ZS.z a) (g : getAll xs ss = some ds) (np : (plcs xs).Nodup) :
    ∃ Bf, Rep K H (ds.map some) (vs.map some) (argF xs Af Bf) ∧ (∀ k a, a ∈ Bf k → a ∈ B) := by
  obtain ⟨hl, hB⟩ := argsB l
  obtain ⟨Bf, b1, b2, b3, b4, b5⟩ := hB nd
  have hd := getAll_len g
  refine ⟨Bf, ⟨by rw [List.length_map, List.length_map, hd, hl], fun k d e => ?_, fun k e => ?_, fun k => ?_, fun j k a h1 h2 => ?_, fun b ⟨k, hk⟩ => ?_, r.zl⟩, b2⟩
  · rw [List.getElem?_map] at e
    cases q : ds[k]? with
    | none => rw [q] at e; simp at e
    | some d0 =>
      rw [q] at e; simp at e; subst e
      obtain ⟨x, z1, z2⟩ := getAll_at g q
      obtain ⟨v, z3, z4⟩ := b1 k x z1
      refine ⟨v, by rw [List.getElem?_map, z3]; rfl, ?_⟩
      unfold argF
      rw [z1]
      cases x with
      | val d1 => cases z2; exact z4
      | plc i =>
        obtain ⟨v', w1, w2⟩ := r.lay i d0 (get_plc z2)
        rw [z4.2] at w1; cases w1
        exact w2
  · have hk : xs[k]? = none := by
      rw [List.getElem?_eq_none_iff]
      rcases Nat.lt_or_ge k xs.length with q | q
      · have : k < ds.length := by omega
        exact absurd (show (ds.map some)[k]? = some (some ds[k]) by simp [this]) (e _)
      · exact q
    unfold argF; rw [hk]
  · unfold argF
    cases q : xs[k]? with
    | none => exact List.nodup_nil
    | some x =>
      cases x with
      | val d1 => exact b3 k
      | plc i => exact r.nd i
  · unfold argF at h1 h2
    cases q1 : xs[j]? with
    | none => rw [q1] at h1; exact nomatch h1
    | some x =>
      cases q2 : xs[k]? with
      | none => rw [q2] at h2; exact nomatch h2
      | some y =>
        rw [q1] at h1; rw [q2] at h2
        cases x with
        | val d1 =>
          cases y with
          | val d2 => exact b4 j k a h1 h2
          | plc i => exact absurd ⟨i, h2⟩ (dj a (b2 j a h1))
        | plc i =>
          cases y with
          | val d2 => exact absurd ⟨i, h1⟩ (dj a (b2 k a h2))
          | plc i' =>
            have e := r.dis i i' a h1 h2
            subst e
            have z1 := kOf_of np q1
            have z2 := kOf_of np q2
            rw [z1] at z2
            exact Option.some.inj z2
  · unfold argF at hk
    cases q1 : xs[k]? with
    | none => rw [q1] at hk; exact nomatch hk
    | some x =>
      rw [q1] at hk
      cases x with
      | val d1 => exact hz b (b2 k b hk)
      | plc i => exact r.nz b ⟨i, hk⟩
theorem argF_own {xs : List Vx} {Bf : Nat → List Addr} {B : List Addr} (hb : ∀ k a, a ∈ Bf k → a ∈ B) {b : Addr} (h : Own (argF xs Af Bf) b) : Own Af b ∨ b ∈ B := by
  obtain ⟨k, hk⟩ := h
  unfold argF at hk
  cases q : xs[k]? with
  | none => rw [q] at hk; exact nomatch hk
  | some x =>
    rw [q] at hk
    cases x with
    | val d => exact .inr (hb k b hk)
    | plc i => exact .inl ⟨i, hk⟩
/-- the caller's view behind it -/
def backF (xs : List Vx) (Af Af' : Nat → List Addr) : Nat → List Addr := fun i => match kOf xs i with
  | some k => Af' k
  | none => Af i
theorem back_rep {H' : Hp} {xs : List Vx} {as : List D} {vs : List V} {B : List Addr} {Bf Af' : Nat → List Addr} {F' : Addr → Prop} (r : Rep K H ss σ Af) (l : LayXL K σ H xs vs B) (np : (plcs xs).Nodup) (hp : ∀ i ∈ plcs xs, ∃ d, ss[i]? = some (some d))
    (hb : ∀ k a, a ∈ Bf k → a ∈ B) (dj : ∀ a ∈ B, ¬ Own Af a)
    (r' : Rep K H' (as.map some) (vs.map some) Af') (st : Stp H (Own (argF xs Af Bf)) H' F') (hF : ∀ b, Own Af' b → F' b) :
    Rep K H' (wb xs as ss) σ (backF xs Af Af') ∧ (∀ b, Own (backF xs Af Af') b → (Own Af b ∧ ¬ Own (argF xs Af Bf) b) ∨ Own Af' b) := by
  obtain ⟨hl, hB⟩ := argsB l
  have ha : as.length = xs.length := by
    have := r'.len
    rw [List.length_map, List.length_map] at this
    omega
  have vOf : ∀ {k i : Nat}, xs[k]? = some (.plc i) → ∃ v, vs[k]? = some v ∧ σ[i]? = some (some v) := by
    have aux : ∀ {xs : List Vx} {vs : List V} {B : List Addr} {k i : Nat}, LayXL K σ H xs vs B → xs[k]? = some (.plc i) → ∃ v, vs[k]? = some v ∧ σ[i]? = some (some v) := by
      intro xs
      induction xs with
      | nil => intro vs B k i _ e; simp at e
      | cons x xs ih =>
        intro vs B k i l e
        obtain ⟨v, ws, B1, B2, e1, e2, l1, l2⟩ := l
        subst e1
        cases k with
        | zero => simp at e; subst e; exact ⟨v, rfl, l1.2⟩
        | succ k =>
          obtain ⟨u, q1, q2⟩ := ih (k := k) l2 (by simpa using e)
          exact ⟨u, by simpa using q1, q2⟩
    exact fun {k i} e => aux l e
  -- a slot that was not handed in
  have out : ∀ {i : Nat} {b : Addr}, kOf xs i = none → b ∈ Af i → ¬ Own (argF xs Af Bf) b := fun {i b} hk hbi ⟨k, hx⟩ => by
    unfold argF at hx
    cases q : xs[k]? with
    | none => rw [q] at hx; exact nomatch hx
    | some x =>
      rw [q] at hx
      cases x with
      | val d => exact dj b (hb k b hx) ⟨i, hbi⟩
      | plc j =>
        have e := r.dis i j b hbi hx
        subst e
        exact kOf_none hk (mem_plcs q)
  refine ⟨⟨by rw [wb_len]; exact r.len, fun i d e => ?_, fun i e => ?_, fun i => ?_, fun i j a h1 h2 => ?_, fun b ⟨i, hi⟩ => (by
    unfold backF at hi
    split at hi
    · exact r'.nz b ⟨_, hi⟩
    · exact r.nz b ⟨_, hi⟩), r'.zl⟩, fun b ⟨i, hi⟩ => ?_⟩
  · have hi : i < ss.length := by
      have := (List.getElem?_eq_some_iff.mp e).1
      rwa [wb_len] at this
    rw [wb_get xs as ss i np ha hi] at e
    unfold backF
    cases q : kOf xs i with
    | some k =>
      rw [q] at e
      obtain ⟨v, z1, z2⟩ := vOf (kOf_some q)
      have e' : (as.map some)[k]? = some (some d) := by
        rw [List.getElem?_map]; exact e
      obtain ⟨v', w1, w2⟩ := r'.lay k d e'
      rw [List.getElem?_map, z1] at w1
      cases w1
      exact ⟨v, z2, w2⟩
    | none =>
      rw [q] at e
      obtain ⟨v, z1, z2⟩ := r.lay i d e
      exact ⟨v, z1, st.lay z2 fun a ha' => out q ha'⟩
  · unfold backF
    cases q : kOf xs i with
    | some k =>
      obtain ⟨d0, hd0⟩ := hp i (mem_plcs (kOf_some q))
      have hi : i < ss.length := (List.getElem?_eq_some_iff.mp hd0).1
      have hk : k < as.length := by
        rw [ha]
        exact (List.getElem?_eq_some_iff.mp (kOf_some q)).1
      refine absurd ?_ (e as[k])
      rw [wb_get xs as ss i np ha hi, q]
      simp [hk]
    | none =>
      refine r.emp i fun d z => e d ?_
      have hi : i < ss.length := (List.getElem?_eq_some_iff.mp z).1
      rw [wb_get xs as ss i np ha hi, q]
      exact z
  · unfold backF
    cases q : kOf xs i with
    | some k => exact r'.nd k
    | none => exact r.nd i
  · unfold backF at h1 h2
    cases q1 : kOf xs i with
    | some k1 =>
      cases q2 : kOf xs j with
      | some k2 =>
        rw [q1] at h1; rw [q2] at h2
        have e := r'.dis k1 k2 a h1 h2
        subst e
        have z1 := kOf_some q1
        have z2 := kOf_some q2
        rw [z1] at z2
        cases z2; rfl
      | none =>
        rw [q1] at h1; rw [q2] at h2
        obtain ⟨o, eo, _⟩ := r.there ⟨j, h2⟩
        exact absurd (hF a ⟨k1, h1⟩) (st.out (out q2 h2) eo)
    | none =>
      cases q2 : kOf xs j with
      | some k2 =>
        rw [q1] at h1; rw [q2] at h2
        obtain ⟨o, eo, _⟩ := r.there ⟨i, h1⟩
        exact absurd (hF a ⟨k2, h2⟩) (st.out (out q1 h1) eo)
      | none =>
        rw [q1] at h1; rw [q2] at h2
        exact r.dis i j a h1 h2
  · unfold backF at hi
    cases q : kOf xs i with
    | some k => rw [q] at hi; exact .inr ⟨k, hi⟩
    | none => rw [q] at hi; exact .inl ⟨⟨i, hi⟩, out q hi⟩
theorem plcs_there : ∀ {xs : List Vx} {ds : List D}, getAll xs ss = some ds → ∀ i ∈ plcs xs, ∃ d, ss[i]? = some (some d)
  | [], _, _, i, h => nomatch h
  | .plc j :: xs, ds, e, i, h => by
    unfold getAll at e
    cases q1 : (Vx.plc j).get ss with
    | none => rw [q1] at e; cases e
    | some d =>
      cases q2 : getAll xs ss with
      | none => rw [q1, q2] at e; cases e
      | some es =>
        rcases List.mem_cons.mp h with h | h
        · subst h; exact ⟨d, get_plc q1⟩
        · exact plcs_there q2 i h
  | .val d :: xs, ds, e, i, h => by
    unfold getAll at e
    cases q2 : getAll xs ss with
    | none => rw [q2] at e; cases e
    | some es => exact plcs_there q2 i h
end
theorem s_call {K : PySem.W.Frag} {W : WX} {σ : St} {H : Hp} {Q : VK} {n : Nat} {F : FV} {g : AV} (h : tE K W (dCall n F g) σ H Q) : tCallS (spD K n F) (WE W) (tA K W g) σ H Q := by
  obtain ⟨ss, Af, rp, h⟩ := h
  refine bindB Stp.refl (fun _ z => z) rp h fun xs vs H1 s1 Af1 B1 e1 r1 l1 n1 d1 st1 h => ?_
  unfold callF at h
  split at h
  · rename_i ds g1
    split at h
    · rename_i c
      obtain ⟨hn, np⟩ := c
      obtain ⟨Bf, ra, hb⟩ := args_rep r1 l1 n1 d1 (fun a ha => rp.nzS st1 (.inr ha)) g1 np
      have hp := plcs_there g1
      refine ⟨ds, _, hn, ra, ?_⟩
      -- the step of the callee, told of the caller's slots
      have lift : ∀ {H2 : Hp} {F2 G2 : Addr → Prop}, Stp H1 (Own (argF xs Af1 Bf)) H2 F2 → (∀ b, G2 b → Own Af1 b ∨ F2 b) → Stp H1 (fun b => Own Af1 b ∨ b ∈ B1) H2 G2 := fun {H2 F2 G2} s hs =>
        ⟨s.kp, fun b o nf e => s.keep b o (fun z => nf (argF_own hb z)) e, fun b g => (hs b g).elim (fun z => .inl (.inl z)) fun z => (s.new b z).elim (fun y => .inl (argF_own hb y)) .inr⟩
      cases q : F ds with
      | err => rw [q] at h; exact h
      | ok d as =>
        rw [q] at h
        rintro v H2 ⟨Af2, B2, r2, l2, n2, d2, st2⟩
        obtain ⟨rb, ob⟩ := back_rep r1 l1 np hp hb d1 r2 st2 fun b z => .inl z
        refine h v H2 ⟨backF xs Af1 Af2, B2, rb, l2, n2, fun a ha z => ?_, st1.trans (lift st2 fun b z => ?_) fun _ z => z⟩
        · rcases ob a z with ⟨q1, q2⟩ | q
          · obtain ⟨o, eo, _⟩ := r1.there q1
            exact st2.out q2 eo (.inr ha)
          · exact d2 a ha q
        · rcases z with z | z
          · exact (ob b z).elim (fun y => .inl y.1) fun y => .inr (.inl y)
          · exact .inr (.inr z)
      | exc e as =>
        rw [q] at h
        rintro cls x H2 ⟨Af2, r2, x2, st2⟩
        obtain ⟨rb, ob⟩ := back_rep r1 l1 np hp hb d1 r2 st2 fun b z => z
        exact h cls x H2 ⟨backF xs Af1 Af2, rb, x2, st1.trans (lift st2 fun b z => (ob b z).elim (fun y => .inl y.1) .inr) fun _ z => z⟩
    · exact h.elim
  · exact h.elim
end Dn

set_option Elab.async false
set_option linter.all false
set_option maxRecDepth 100000
set_option maxHeartbeats 2000000
/-! Dx5: sorted of truth values. -/
namespace Dn
open PySem PySem.Spec PyProof.Rows PyProof L2 SrtO Srt
theorem slot_bool_lt : Slot "bool" (Str.ofString "__lt__") "int.__lt__" := by first | exact F.slot_bool_lt | kernel_rfl
def bv : Value → Bool
  | .bool b => b
  | _ => false
def ltBv (v u : Value) : Bool := !bv v && bv u
theorem swo_bool : Swo ltBv := by
  refine ⟨fun x y h => ?_, fun x y z h1 h2 => ?_⟩
  · unfold ltBv at *
    revert h
    generalize bv x = a
    generalize bv y = b
    revert a b
    decide
  · unfold ltBv at *
    revert h1 h2
    generalize bv x = a
    generalize bv y = b
    generalize bv z = c
    revert a b c
    decide
theorem bools_in : ∀ {bs : List Bool} {us : List Value}, Vals (bs.map V.bl) us → us = bs.map Value.bool
  | [], _, .nil => rfl
  | b :: bs, _, .cons h t => by
    have h : _ = Value.bool b := h
    rw [List.map_cons, ← bools_in t, ← h]
theorem bools_out : ∀ {bs : List Bool}, Vals (bs.map V.bl) (bs.map Value.bool)
  | [] => .nil
  | b :: bs => .cons rfl bools_out
section
variable {prog : Program} {w : World} {A : Around} {E : Value → Shared → Prop} {s : Shared}
theorem oneLt_bool {a b : Bool} {Q : Bool → Shared → Prop} (h : Q (!a && b) s) : wpAny (model prog w) A (oneLt' true (.bool a) (.bool b)) Q E s := by
  rw [oneLt'_eq]
  simp only [if_true]
  refine wpAny_bind (wpAny_cRoomFor_byValue rfl ?_)
  refine wpAny_bind (wpAny_callSpecialIfBound?_slot (typeIs_bool' s a) slot_bool_lt (call_gives slot_bool_lt (typeIs_bool' s a) F.entry_int_lt (F.args_int_lt_2 _ _) (gives_int_lt_bools a b) ?_))
  refine wpAny_truthy_bool ?_
  cases a <;> cases b <;> exact h
theorem first_bools : ∀ {bs : List Bool}, (bs.map Value.bool).mapM firstOfTuple' = pure (bs.map fun _ => none)
  | [] => by simp
  | b :: bs => by
    rw [List.map_cons, List.mapM_cons, first_bools]
    show (pure none >>= fun b => pure _ >>= fun bs => pure (b :: bs)) = _
    simp
theorem ty_bools : ∀ {bs : List Bool}, (bs.map Value.bool).mapM typeOf = pure (bs.map fun _ => Value.type "bool")
  | [] => by simp
  | b :: bs => by
    rw [List.map_cons, List.mapM_cons, ty_bools]
    show (pure (Value.type "bool") >>= fun b => pure _ >>= fun bs => pure (b :: bs)) = _
    simp
theorem keyKind_bools {b c : Bool} {bs : List Bool} : keyKind' ((b :: c :: bs).map Value.bool).toArray = pure oneType' := by
  rw [keyKind'_eq, List.mapM_toArray, first_bools]
  simp only [map_pure, pure_bind]
  rw [if_neg (by simp), if_neg (by simp)]
  rw [oneTypeOnly'_eq, List.mapM_toArray, ty_bools]
  simp only [map_pure, pure_bind]
  have hall : ((List.map (fun _ => Value.type "bool") (b :: c :: bs)).toArray.all fun x => x == Value.type "bool") = true := by
    simp only [List.all_toArray, List.all_map, List.all_eq_true]
    intro _ _
    rfl
  have h0 : (List.map (fun _ => Value.type "bool") (b :: c :: bs)).toArray[0]? = some (Value.type "bool") := by simp
  rw [h0]
  simp only [hall, if_true, pure_bind, Option.isSome_some]
theorem bools_sortable {a : Addr} {bs : List Bool} (h2 : 2 ≤ bs.length) : SortableO prog w A s a (bs.map Value.bool) ltBv := by
  intro h' _
  refine ⟨oneType', fun Q E hq => ?_, fun p q hp hq => ?_⟩
  · match bs, h2 with
    | b :: c :: bs, _ =>
      rw [keyKind_bools]
      exact wpAny_pure hq
    | [b], h => exact absurd h (by simp)
    | [], h => exact absurd h (by simp)
  · obtain ⟨x, _, e1⟩ := List.mem_map.mp hp
    obtain ⟨y, _, e2⟩ := List.mem_map.mp hq
    show wpAny (model prog w) A (keyLt' oneType' p.1 q.1) (fun r s' => s' = _ ∧ r = ltBv p.1 q.1) (fun _ _ => False) _
    rw [← e1, ← e2, keyLt'_oneType]
    exact oneLt_bool ⟨rfl, rfl⟩
end
def rSortedB (K : PySem.W.Frag) : List V → Hp → VK → Prop := fun vs H Q => ∃ (a : Addr) (bs : List Bool), vs = [V.ref a] ∧ SqL K H a (bs.map V.bl) ∧
  ∀ (bs' : List Bool) (p : Addr), bs'.Perm bs → bs'.Pairwise (fun x y => (!y && x) = false) → H p = none → Q (.ref p) (upd H p (.lst (bs'.map V.bl)))
theorem cr_sortedB {X : Cx} : CallR X (.builtin "sorted") (rSortedB X.K) := by
  intro pins s σ H vs us Q I r h
  obtain ⟨a, bs, rfl, hs, q⟩ := h
  obtain ⟨its, rv, hl, hz⟩ := I.list hs
  rw [Vals.ref1 r]
  have hi := bools_in rv
  subst hi
  have hz' : (bs.map Value.bool).length ≤ sizeLine := by rw [← rv.length]; exact hz
  refine SrtO.sorted_ord swo_bool hl.isList hz' (fun h2 h₁ a' _ _ => bools_sortable (by simpa using h2)) fun out h1 h2 => ?_
  have hm : ∀ v ∈ out, ∃ b, v = Value.bool b := fun v hv => by
    obtain ⟨b, _, e⟩ := List.mem_map.mp (h2.perm.mem_iff.mp hv)
    exact ⟨b, e.symm⟩
  have ho : out = (out.map bv).map Value.bool := by
    rw [List.map_map]
    refine (List.map_id _).symm.trans (List.map_congr_left fun v hv => ?_)
    obtain ⟨b, e⟩ := hm v hv
    subst e
    rfl
  have k2 : (out.map bv).Perm bs := by
    have := h2.perm.map bv
    rw [List.map_map] at this
    have e : bs.map (bv ∘ Value.bool) = bs := by
      conv => rhs; rw [← List.map_id bs]
      rfl
    rw [e] at this
    exact this
  have k3 : (out.map bv).Pairwise (fun x y => (!y && x) = false) := List.pairwise_map.mpr (h1.imp fun {x y} h => h)
  obtain ⟨ep, he'⟩ := PyProof.Rows.sortedAll_at s.heap (bs.map Value.bool) out.toArray
  have hlen : ((out.map bv).map V.bl).length ≤ sizeLine := by
    rw [List.length_map, k2.length_eq]
    rw [List.length_map] at hz'
    exact hz'
  exact ⟨.ref _, upd H (s.heap.objs.size + 1) (.lst ((out.map bv).map V.bl)), I.laid (t' := s.toks) (fun _ _ => PyProof.Rows.sortedAll_old) (Nat.le_succ _) ⟨hlen, out, ep, by have := bools_out (bs := out.map bv); rw [← ho] at this; exact this, he'⟩, rfl, q _ _ k2 k3 (I.hok.fresh (Nat.le_succ _))⟩
theorem two_bools : ∀ a b c d : Bool, [c, d].Perm [a, b] → (!d && c) = false → [c, d] = [a && b, a || b] := by decide
end Dn

set_option Elab.async false
set_option linter.all false
set_option maxRecDepth 100000
set_option maxHeartbeats 2000000
/-! Dn6: builtins by name, isinstance, slices, keyword calls. -/
namespace Dn
open PySem L2
variable [ZS]

/-! ### values in a row, read -/
def RdL (K : PySem.W.Frag) (H : Hp) : List D → List V → Prop
  | [], vs => vs = []
  | d :: ds, vs => ∃ v ws A, vs = v :: ws ∧ Lay K H d v A ∧ RdL K H ds ws
section
variable {K : PySem.W.Frag} {σ : St} {H : Hp} {ss : Sl} {Af : Nat → List Addr}
theorem rd_args (r : Rep K H ss σ Af) : ∀ {xs : List Vx} {ds : List D} {vs : List V} {B : List Addr}, LayXL K σ H xs vs B → getAll xs ss = some ds → RdL K H ds vs
  | [], ds, vs, B, l, e => by cases e; exact l.1
  | x :: xs, ds, vs, B, l, e => by
    obtain ⟨v, ws, B1, B2, e1, e2, l1, l2⟩ := l
    unfold getAll at e
    cases q1 : x.get ss with
    | none => rw [q1] at e; cases e
    | some d =>
      cases q2 : getAll xs ss with
      | none => rw [q1, q2] at e; cases e
      | some es =>
        rw [q1, q2] at e; cases e
        obtain ⟨A, z⟩ := l1.read r q1
        exact ⟨v, ws, A, e1, z, rd_args r l2 q2⟩
end
def OpSL (K : PySem.W.Frag) (op : List D → Option D) (r : List V → Hp → VK → Prop) : Prop := ∀ (H : Hp) (ds : List D) (d : D) (vs : List V) (Q : VK), RdL K H ds vs → op ds = some d → Fn K H d Q → r vs H Q
def opL (op : List D → Option D) (xs : List Vx) (ss : Sl) : R Vx := match getAll xs ss with
  | some ds => ofD (op ds) ss
  | none => .err
def dPrim (op : List D → Option D) (g : AV) : EV := fun ss => (g ss).bind (opL op)
theorem s_prim {K : PySem.W.Frag} {W : WX} {σ : St} {H : Hp} {Q : VK} {op : List D → Option D} {r : List V → Hp → VK → Prop} {g : AV} (hr : OpSL K op r) (h : tE K W (dPrim op g) σ H Q) : tCB r (tA K W g) σ H Q := by
  obtain ⟨ss, Af, rp, h⟩ := h
  refine bindW rp h fun xs vs H1 s1 Af1 B1 e1 r1 l1 n1 d1 st1 h => ?_
  unfold opL at h
  split at h
  · rename_i ds g1
    cases q : op ds with
    | none => rw [q] at h; exact h.elim
    | some d => rw [q] at h; exact hr H1 ds d vs Q (rd_args r1 l1 g1) q (Wn.fn r1 h)
  · exact h.elim

/-! ### builtins -/
inductive Blt where
  | abs | int | len | max | min | tuple | list | str | sorted
  deriving DecidableEq
def Blt.name : Blt → Str
  | .abs => "abs" | .int => "int" | .len => "len" | .max => "max" | .min => "min" | .tuple => "tuple" | .list => "list" | .str => "str" | .sorted => "sorted"
def Blt.val : Blt → Value
  | .abs => .builtin "abs" | .int => .type "int" | .len => .builtin "len" | .max => .builtin "max" | .min => .builtin "min" | .tuple => .type "tuple" | .list => .type "list" | .str => .type "str" | .sorted => .builtin "sorted"
def Blt.all : List Blt := [.abs, .int, .len, .max, .min, .tuple, .list, .str, .sorted]
def bltOf (x : Str) : Option Blt := Blt.all.find? fun b => decide (b.name = x)
theorem bltOf_name {x : Str} {b : Blt} (h : bltOf x = some b) : b.name = x := by
  have := List.find?_some h
  simpa using this
theorem Blt.boot (b : Blt) : bootBuiltins b.name = some b.val := by cases b <;> decide +kernel
theorem Blt.nm (b : Blt) : b.name ≠ "__name__" := by cases b <;> decide +kernel
theorem Blt.db (b : Blt) : (b.name == ("__debug__" : Str)) = false := by cases b <;> decide +kernel
def lenD : D → Option Nat
  | .str s => if s.length ≤ sizeLine then some s.length else none
  | d => match seqD d with
    | some ds => some ds.length
    | none => none
def sortD : List D → Option D
  | [.bl a, .bl b] => some (.ml [.bl (a && b), .bl (a || b)])
  | _ => none
def bltD : Blt → List D → Option D
  | .abs, [.int i] => some (.int (if i < 0 then -i else i))
  | .int, [.int i] => some (.int i)
  | .int, [.bl b] => some (.int (if b then 1 else 0))
  | .len, [d] => match lenD d with
    | some n => some (.int n)
    | none => none
  | .max, [.int i, .int j] => some (.int (if j > i then j else i))
  | .min, [.int i, .int j] => some (.int (if j < i then j else i))
  | .tuple, [d] => match seqD d with
    | some ds => if allPure ds = true then some (.tup ds) else none
    | none => none
  | .list, [d] => match seqD d with
    | some ds => if allPure ds = true then some (.ml ds) else none
    | none => none
  | .str, [.int i] => if i.natAbs.log2 < 1920 then some (.str (toString i)) else none
  | .sorted, [.ml ds] => sortD ds
  | .sorted, [.lst ds] => sortD ds
  | _, _ => none
def bltR (K : PySem.W.Frag) : Blt → List V → Hp → VK → Prop
  | .abs => fun xs H Q => ∃ i, xs = [.int i] ∧ Q (.int (if i < 0 then -i else i)) H
  | .int => fun xs H Q => (∃ i, xs = [.int i] ∧ Q (.int i) H) ∨ ∃ k, xs = [.bl k] ∧ Q (.int (if k then 1 else 0)) H
  | .len => fun xs H Q => ∃ x n, xs = [x] ∧ LenV K x H n ∧ Q (.int n) H
  | .max => fun xs H Q => ∃ i j, xs = [.int i, .int j] ∧ Q (.int (if j > i then j else i)) H
  | .min => fun xs H Q => ∃ i j, xs = [.int i, .int j] ∧ Q (.int (if j < i then j else i)) H
  | .tuple => fun xs H Q => ∃ p ys, xs = [.ref p] ∧ ((SqL K H p ys ∧ ∀ l, H l = none → Q (.ref l) (upd H l (.tup ys))) ∨ (SqT K H p ys ∧ Q (.ref p) H))
  | .list => fun xs H Q => ∃ p ys, xs = [.ref p] ∧ (SqL K H p ys ∨ SqT K H p ys) ∧ ∀ l, H l = none → Q (.ref l) (upd H l (.lst ys))
  | .str => fun xs H Q => ∃ i, xs = [.int i] ∧ i.natAbs.log2 < 1920 ∧ Q (.str (toString i)) H
  | .sorted => rSortedB K
theorem call_blt {X : Cx} (hc : X.calm = true) (b : Blt) : CallR X b.val (bltR X.K b) := by
  cases b with
  | abs => exact call_abs
  | int => exact call_int1
  | len => exact call_len
  | max => exact call_max2 hc
  | min => exact call_min2 hc
  | tuple => exact call_tuple_of
  | list => exact call_list_of
  | str => exact call_str_int
  | sorted => exact cr_sortedB
section
variable {K : PySem.W.Frag} {H : Hp}
theorem rd1 {d : D} {vs : List V} (h : RdL K H [d] vs) : ∃ v A, vs = [v] ∧ Lay K H d v A := by
  obtain ⟨v, ws, A, e, l, z⟩ := h
  have z : ws = [] := z
  subst z
  exact ⟨v, A, e, l⟩
theorem rd2 {d d' : D} {vs : List V} (h : RdL K H [d, d'] vs) : ∃ v v' A A', vs = [v, v'] ∧ Lay K H d v A ∧ Lay K H d' v' A' := by
  obtain ⟨v, ws, A, e, l, z⟩ := h
  obtain ⟨v', A', e', l'⟩ := rd1 z
  subst e'
  exact ⟨v, v', A, A', e, l, l'⟩
theorem len_lay {d : D} {v : V} {A : List Addr} {n : Nat} (l : Lay K H d v A) (e : lenD d = some n) : LenV K v H n := by
  unfold lenD at e
  split at e
  · split at e
    · cases e; rw [l.1]; exact ⟨‹_›, rfl⟩
    · cases e
  · split at e
    · rename_i ds f
      cases e
      obtain ⟨a, vs, B, e1, h1, h2⟩ := lay_seq f l
      rw [e1]
      rcases h1 with h1 | h1
      · exact .inl ⟨vs, h1, (LayL.len h2).symm⟩
      · exact .inr ⟨vs, h1, (LayL.len h2).symm⟩
    · cases e
theorem sort_two {es : List D} {d : D} {vs ws : List V} {a : Addr} {B : List Addr} {Q : VK} (e1 : vs = [V.ref a]) (hs : SqL K H a ws) (l : LayL K H es ws B) (e : sortD es = some d) (f : Fn K H d Q) : rSortedB K vs H Q := by
  unfold sortD at e
  split at e
  · rename_i x y
    cases e
    obtain ⟨v1, ws1, A1, A2, e2, _, l1, l2⟩ := l
    obtain ⟨v2, ws2, A3, A4, e3, _, l3, l4⟩ := l2
    have z : ws2 = [] := l4.1
    subst z; subst e3; subst e2
    rw [l1.1, l3.1] at hs
    refine ⟨a, [x, y], e1, hs, fun bs' p hp hw hn => ?_⟩
    match bs', hp, hw with
    | [c, d], hp, hw =>
      have hw := (List.pairwise_cons.mp hw).1 d List.mem_cons_self
      rw [two_bools x y c d hp hw]
      exact f.2.1 _ _ p rfl hn (LayL.cons0 ⟨rfl, rfl⟩ (LayL.cons0 ⟨rfl, rfl⟩ LayL.nil))
    | [], hp, _ => exact absurd hp.length_eq (by simp)
    | [c], hp, _ => exact absurd hp.length_eq (by simp)
    | c :: d :: g :: r, hp, _ => exact absurd hp.length_eq (by simp)
  · cases e
theorem ops_blt (b : Blt) : OpSL K (bltD b) (bltR K b) := by
  intro H ds d vs Q l e f
  unfold bltD at e
  split at e
  · cases e; obtain ⟨v, A, e1, l1⟩ := rd1 l; exact ⟨_, by rw [e1, l1.1], f.val rfl⟩
  · cases e; obtain ⟨v, A, e1, l1⟩ := rd1 l; exact .inl ⟨_, by rw [e1, l1.1], f.val rfl⟩
  · cases e; obtain ⟨v, A, e1, l1⟩ := rd1 l; exact .inr ⟨_, by rw [e1, l1.1], f.val rfl⟩
  · split at e
    · rename_i n q
      cases e
      obtain ⟨v, A, e1, l1⟩ := rd1 l
      exact ⟨v, n, e1, len_lay l1 q, f.val rfl⟩
    · cases e
  · cases e; obtain ⟨v, v', A, A', e1, l1, l2⟩ := rd2 l; exact ⟨_, _, by rw [e1, l1.1, l2.1], f.val rfl⟩
  · cases e; obtain ⟨v, v', A, A', e1, l1, l2⟩ := rd2 l; exact ⟨_, _, by rw [e1, l1.1, l2.1], f.val rfl⟩
  · split at e
    · rename_i es q
      split at e
      · rename_i p
        cases e
        obtain ⟨v, A, e1, l1⟩ := rd1 l
        obtain ⟨a, ws, B, e2, h1, h2⟩ := lay_seq q l1
        have z := layL_pure p h2
        subst z; subst e2
        refine ⟨a, ws, e1, ?_⟩
        rcases h1 with h1 | h1
        · exact .inl ⟨h1, fun t ht => f.2.2 _ _ t rfl ht h2⟩
        · exact .inr ⟨h1, f.1 _ ⟨rfl, a, ws, rfl, h1, h2⟩⟩
      · cases e
    · cases e
  · split at e
    · rename_i es q
      split at e
      · rename_i p
        cases e
        obtain ⟨v, A, e1, l1⟩ := rd1 l
        obtain ⟨a, ws, B, e2, h1, h2⟩ := lay_seq q l1
        have z := layL_pure p h2
        subst z; subst e2
        exact ⟨a, ws, e1, h1, fun t ht => f.2.1 _ _ t rfl ht h2⟩
      · cases e
    · cases e
  · split at e
    · cases e; obtain ⟨v, A, e1, l1⟩ := rd1 l; exact ⟨_, by rw [e1, l1.1], ‹_›, f.val rfl⟩
    · cases e
  · obtain ⟨v, A, e1, l1⟩ := rd1 l
    obtain ⟨a, ws, B, e2, h1, h2, _⟩ := l1
    subst e2
    exact sort_two e1 (SqL.of h1) h2 e f
  · obtain ⟨v, A, e1, l1⟩ := rd1 l
    obtain ⟨_, a, ws, e2, h1, h2⟩ := l1
    subst e2
    exact sort_two e1 h1.sq h2 e f
  · cases e
end

/-! ### isinstance of built-in types -/
inductive Ty where
  | non | bl | int | str | tup | lst
inductive Cl where
  | int | bool | str | tuple | list
  deriving DecidableEq
def Ty.nm : Ty → String
  | .non => "NoneType" | .bl => "bool" | .int => "int" | .str => "str" | .tup => "tuple" | .lst => "list"
def Cl.nm : Cl → String
  | .int => "int" | .bool => "bool" | .str => "str" | .tuple => "tuple" | .list => "list"
def Cl.sn : Cl → Str
  | .int => "int" | .bool => "bool" | .str => "str" | .tuple => "tuple" | .list => "list"
def Cl.all : List Cl := [.int, .bool, .str, .tuple, .list]
def clOf (x : Str) : Option Cl := Cl.all.find? fun b => decide (b.sn = x)
theorem clOf_name {x : Str} {b : Cl} (h : clOf x = some b) : b.sn = x := by
  have := List.find?_some h
  simpa using this
theorem Cl.boot (b : Cl) : bootBuiltins b.sn = some (.type b.nm) := by cases b <;> decide +kernel
theorem Cl.nmn (b : Cl) : b.sn ≠ "__name__" := by cases b <;> decide +kernel
theorem Cl.db (b : Cl) : (b.sn == ("__debug__" : Str)) = false := by cases b <;> decide +kernel
def tyD : D → Option Ty
  | .non => some .non | .bl _ => some .bl | .int _ => some .int | .str _ => some .str | .tup _ => some .tup
  | .lst _ => some .lst | .ml _ => some .lst | .kl _ => some .lst | .ins _ _ _ => none | .exo _ _ _ _ _ => none
  | .vi _ _ _ => none
  | .mt _ => some .tup
  | .rf _ => none
def isTy : Ty → Cl → Bool
  | .bl, .int => true | .bl, .bool => true | .int, .int => true | .str, .str => true | .tup, .tuple => true | .lst, .list => true
  | _, _ => false
theorem kit_all (t : Ty) (c : Cl) : kitB t.nm c.nm = some (isTy t c) := by cases t <;> cases c <;> decide +kernel
def isiD (d : D) (c : Cl) : Option Bool := match tyD d with
  | some t => some (isTy t c)
  | none => none
def asI (c : Cl) (x : Vx) (ss : Sl) : R Vx := match x.get ss with
  | some d => match isiD d c with
    | some b => .ok (.val (.bl b)) ss
    | none => .err
  | none => .err
def dIsi (c : Cl) (f : EV) : EV := fun ss => (f ss).bind (asI c)
section
variable {K : PySem.W.Frag} {W : WX} {σ : St} {H : Hp} {Q : VK}
theorem sqT_ty {a : Addr} {xs : List V} (h : SqT K H a xs) : TyX K H (.ref a) (.type "tuple") := by
  rcases h with (h | ⟨o, h⟩) | ⟨o, its, n, h1, h2, _⟩
  · exact .base (.tup h)
  · exact .fTuple h
  · exact .kTuple h1 h2
theorem sqL_ty {a : Addr} {xs : List V} (h : SqL K H a xs) : TyX K H (.ref a) (.type "list") := by
  rcases h with (h | ⟨o, h⟩) | ⟨o, its, n, h1, h2, _⟩
  · exact .base (.lst h)
  · exact .base (.frz h)
  · exact .kList h1 h2
theorem lay_ty : ∀ {d : D} {t : Ty} {v : V} {A : List Addr}, tyD d = some t → Lay K H d v A → TyX K H v (.type t.nm) := fun {d t v A} e l => by
  cases d with
  | vi => cases e
  | mt => cases e; obtain ⟨a, vs, e1, h1, _⟩ := l; rw [e1]; exact sqT_ty h1
  | rf => cases e
  | non => cases e; rw [l.1]; exact .base .non
  | bl => cases e; rw [l.1]; exact .base (.bl _)
  | int => cases e; rw [l.1]; exact .base (.int _)
  | str => cases e; rw [l.1]; exact .base (.str _)
  | tup => cases e; obtain ⟨_, a, vs, e1, h1, _⟩ := l; rw [e1]; exact sqT_ty h1
  | lst => cases e; obtain ⟨_, a, vs, e1, h1, _⟩ := l; rw [e1]; exact sqL_ty h1.sq
  | kl => cases e; obtain ⟨_, a, vs, e1, h1, _⟩ := l; rw [e1]; exact sqL_ty h1.sq
  | ml => cases e; obtain ⟨a, vs, B, e1, h1, _⟩ := l; rw [e1]; exact sqL_ty (SqL.of h1)
  | ins => cases e
  | exo => cases e
theorem s_isi {c : Cl} {f : EV} (h : tE K W (dIsi c f) σ H Q) : tCB (rIsi K) (tCons (tE K W f) (tCons (tC (.ty c.nm)) tNil)) σ H Q := by
  obtain ⟨ss, Af, rp, h⟩ := h
  refine bindW rp h fun x v H1 s1 Af1 B1 e1 r1 l1 n1 d1 st1 h => ?_
  unfold asI at h
  split at h
  · rename_i d g
    split at h
    · rename_i b q
      obtain ⟨A, l⟩ := l1.read r1 g
      unfold isiD at q
      split at q
      · rename_i t qt
        cases q
        exact ⟨v, .ty c.nm, .type t.nm, .type c.nm, isTy t c, rfl, .ty _, lay_ty qt l, kit_ty (kit_all t c), Wn.done r1 h ⟨rfl, rfl⟩⟩
      · cases q
    · exact h.elim
  · exact h.elim

/-! ### slices -/
def optI : Option D → Option (Option Int)
  | none => some none
  | some (.int i) => some (some i)
  | some _ => none
def cutL {α : Type} (xs : List α) (lo hi : Option Int) : List α := (xs.drop (HT.sIx xs.length 0 lo)).take (HT.sIx xs.length xs.length hi - HT.sIx xs.length 0 lo)
def slD (d : D) (lo hi : Option Int) : Option D := match d with
  | .str s => if s.length ≤ sizeLine then some (.str (cutS s lo hi)) else none
  | .tup ds => some (.tup (cutL ds lo hi))
  | .lst ds => some (.ml (cutL ds lo hi))
  | .kl ds => some (.ml (cutL ds lo hi))
  | .ml ds => if allPure ds = true then some (.ml (cutL ds lo hi)) else none
  | _ => none
abbrev OV := Sl → R (Option Int)
def dNoP : OV := fun ss => .ok none ss
def asP (x : Vx) (ss : Sl) : R (Option Int) := match x with
  | .val (.int i) => .ok (some i) ss
  | _ => .err
def dPart (f : EV) : OV := fun ss => (f ss).bind asP
def op3s (x : Vx) (lo hi : Option Int) (ss : Sl) : R Vx := match x.get ss with
  | some d => ofD (slD d lo hi) ss
  | none => .err
def dSl (f : EV) (lo hi : OV) : EV := fun ss => (f ss).bind fun x s1 => (lo s1).bind fun l s2 => (hi s2).bind fun u s3 => op3s x l u s3
def LayO (_ : Hp) (o o' : Option Int) (B : List Addr) : Prop := o' = o ∧ B = []
abbrev tO (K : PySem.W.Frag) (W : WX) (f : OV) : TO := fun σ H Q => tD LayO K W f σ H Q
theorem s_noP {Q : Option Int → Hp → Prop} (h : tO K W dNoP σ H Q) : tNoPart σ H Q := by
  obtain ⟨ss, Af, r, h⟩ := h
  exact Wn.done r h ⟨rfl, rfl⟩
theorem s_part {f : EV} {Q : Option Int → Hp → Prop} (h : tO K W (dPart f) σ H Q) : tPart (tE K W f) σ H Q := by
  obtain ⟨ss, Af, rp, h⟩ := h
  refine bindW rp h fun x v H1 s1 Af1 B1 e1 r1 l1 n1 d1 st1 h => ?_
  unfold asP at h
  split at h
  · rename_i i
    exact ⟨i, l1.1, Wn.done r1 h ⟨rfl, rfl⟩⟩
  · exact h.elim
def rSlAny (K : PySem.W.Frag) : V → Option Int → Option Int → Hp → VK → Prop := fun x lo hi H Q => rSlL K x lo hi H Q ∨ rSlA K x lo hi H Q ∨ rSlS x lo hi H Q
theorem sl_any {X : Cx} : SlR X (rSlAny X.K) := sl_list.or (sl_tupA.or sl_str)
theorem cutL_lay {ds : List D} {vs : List V} (lo hi : Option Int) (l : LayL K H ds vs []) : LayL K H (cutL ds lo hi) (cutV vs lo hi) [] := by
  unfold cutL cutV
  rw [LayL.len l]
  exact LayL.take0 _ (LayL.drop0 _ l)
theorem cutL_whole {α : Type} {xs : List α} {lo hi : Option Int} (h : HT.sIx xs.length 0 lo = 0 ∧ HT.sIx xs.length xs.length hi = xs.length) : cutL xs lo hi = xs := by
  unfold cutL
  rw [h.1, h.2]
  simp
theorem s_sl {f : EV} {lo hi : OV} (h : tE K W (dSl f lo hi) σ H Q) : tSl (rSlAny K) (tE K W f) (tO K W lo) (tO K W hi) σ H Q := by
  obtain ⟨ss, Af, rp, h⟩ := h
  refine bindW rp h fun x v H1 s1 Af1 B1 e1 r1 l1 n1 d1 st1 h => ?_
  refine bindW r1 h fun l l' H2 s2 Af2 B2 e2 r2 l2 n2 d2 st2 h => ?_
  refine bindW r2 h fun u u' H3 s3 Af3 B3 e3 r3 l3 n3 d3 st3 h => ?_
  obtain ⟨q1, q2⟩ := l2
  subst q1; subst q2
  obtain ⟨q1, q2⟩ := l3
  subst q1; subst q2
  have o2 := l1.stay st2 d1
  have lx : LayX K σ H3 x v B1 := o2.stay st3 (fun a ha z => (l1.out st2 d1 a ha) (.inl z))
  unfold op3s at h
  split at h
  · rename_i d g
    obtain ⟨A, lay⟩ := lx.read r3 g
    cases q : slD d l' u' with
    | none => rw [q] at h; exact h.elim
    | some e =>
      rw [q] at h
      have f := Wn.fn r3 h
      cases d with
      | str s =>
        have q : (if s.length ≤ sizeLine then some (D.str (cutS s l' u')) else none) = some e := q
        split at q
        · cases q; exact .inr (.inr ⟨s, lay.1, ‹_›, f.val rfl⟩)
        · cases q
      | tup ds =>
        cases q
        obtain ⟨_, a, vs, e1, h1, h2⟩ := lay
        have hl := LayL.len h2
        refine .inr (.inl ⟨a, vs, e1, h1, fun z => ?_, fun _ p hp => f.2.2 _ _ p rfl hp (cutL_lay _ _ h2)⟩)
        rw [hl] at z
        rw [cutL_whole z] at f
        exact f.1 _ ⟨rfl, a, vs, rfl, h1, h2⟩
      | lst ds =>
        cases q
        obtain ⟨_, a, vs, e1, h1, h2⟩ := lay
        exact .inl ⟨a, vs, e1, h1.sq, fun p hp => f.2.1 _ _ p rfl hp (cutL_lay _ _ h2)⟩
      | kl ds =>
        cases q
        obtain ⟨_, a, vs, e1, h1, h2⟩ := lay
        exact .inl ⟨a, vs, e1, h1.sq, fun p hp => f.2.1 _ _ p rfl hp (cutL_lay _ _ h2)⟩
      | ml ds =>
        have q : (if allPure ds = true then some (D.ml (cutL ds l' u')) else none) = some e := q
        split at q
        · rename_i p
          cases q
          obtain ⟨a, vs, B, e1, h1, h2, _⟩ := lay
          have z := layL_pure p h2
          subst z
          exact .inl ⟨a, vs, e1, SqL.of h1, fun p hp => f.2.1 _ _ p rfl hp (cutL_lay _ _ h2)⟩
        · cases q
      | _ => cases q
  · exact h.elim
end

/-! ### calls by keywords alone -/
def permL {α : Type} (ks : List Str) : List Str → List α → Option (List α)
  | [], _ => some []
  | p :: ps, xs => match ks.findIdx? (fun k => decide (k = p)) with
    | some i => match xs[i]?, permL ks ps xs with
      | some x, some r => some (x :: r)
      | _, _ => none
    | none => none
def callK (ps ks : List Str) (F : FV) (xs : List Vx) (ss : Sl) : R Vx := match pures xs with
  | some ds => if ds.length = ks.length then match permL ks ps ds with
      | some es => match F es with
        | .ok d _ => .ok (.val d) ss
        | .exc e _ => .exc e ss
        | .err => .err
      | none => .err
    else .err
  | none => .err
def dCallK (ps ks : List Str) (F : FV) (g : AV) : EV := fun ss => (g ss).bind (callK ps ks F)
section
variable {K : PySem.W.Frag} {W : WX} {σ : St} {H : Hp} {Q : VK}
theorem permL_lay : ∀ {ks ps : List Str} {ds es : List D} {vs : List V}, LayL K H ds vs [] → permL ks ps ds = some es → ∃ ws, permL ks ps vs = some ws ∧ LayL K H es ws []
  | ks, [], ds, es, vs, l, e => by cases e; exact ⟨[], rfl, LayL.nil⟩
  | ks, p :: ps, ds, es, vs, l, e => by
    unfold permL at e ⊢
    cases q1 : ks.findIdx? (fun k => decide (k = p)) with
    | none => rw [q1] at e; cases e
    | some i =>
      rw [q1] at e
      cases q2 : ds[i]? with
      | none => simp only [q2] at e; cases e
      | some d =>
        cases q3 : permL ks ps ds with
        | none => simp only [q2, q3] at e; cases e
        | some r =>
          simp only [q2, q3] at e
          cases e
          obtain ⟨v, z1, z2⟩ := l.get0 q2
          obtain ⟨ws, z3, z4⟩ := permL_lay l q3
          exact ⟨v :: ws, by simp only [z1, z3], LayL.cons0 z2 z4⟩
theorem permL_vals : ∀ {ks ps : List Str} {vs ws : List V} {us : List Value}, Vals vs us → permL ks ps vs = some ws → ∃ zs, permL ks ps us = some zs ∧ Vals ws zs
  | ks, [], vs, ws, us, r, e => by cases e; exact ⟨[], rfl, .nil⟩
  | ks, p :: ps, vs, ws, us, r, e => by
    unfold permL at e ⊢
    cases q1 : ks.findIdx? (fun k => decide (k = p)) with
    | none => rw [q1] at e; cases e
    | some i =>
      rw [q1] at e
      cases q2 : vs[i]? with
      | none => simp only [q2] at e; cases e
      | some d =>
        cases q3 : permL ks ps vs with
        | none => simp only [q2, q3] at e; cases e
        | some r' =>
          simp only [q2, q3] at e
          cases e
          obtain ⟨v, z1, z2⟩ := r.get q2
          obtain ⟨zs, z3, z4⟩ := permL_vals r q3
          exact ⟨v :: zs, by simp only [z1, z3], .cons z2 z4⟩
/-- pure arguments, the callee's view -/
theorem pure_rep (hz : ∀ b, ZS.z b → H b ≠ none) : ∀ {ds : List D} {vs : List V}, LayL K H ds vs [] → Rep K H (ds.map some) (vs.map some) (fun _ => []) := fun {ds vs} l =>
  ⟨by rw [List.length_map, List.length_map, LayL.len l], fun i d e => by
    rw [List.getElem?_map] at e
    cases q : ds[i]? with
    | none => rw [q] at e; simp at e
    | some d0 =>
      rw [q] at e; simp at e; subst e
      obtain ⟨v, z1, z2⟩ := l.get0 q
      exact ⟨v, by rw [List.getElem?_map, z1]; rfl, z2⟩, fun _ _ => rfl, fun _ => List.nodup_nil, fun _ _ _ z => (nomatch z), fun _ ⟨_, z⟩ => (nomatch z), hz⟩
def tCallKS (ks ps : List Str) (sp : Sp) (E : St → XK) (t : TA) : TE := fun σ H Q => t σ H fun vs H1 => vs.length = ks.length ∧ ∃ ws, permL ks ps vs = some ws ∧ sp ws H1 Q (E σ)
theorem permL_len {α : Type} : ∀ {ks ps : List Str} {xs ys : List α}, permL ks ps xs = some ys → ys.length = ps.length
  | ks, [], xs, ys, e => by cases e; rfl
  | ks, p :: ps, xs, ys, e => by
    unfold permL at e
    cases q1 : ks.findIdx? (fun k => decide (k = p)) with
    | none => rw [q1] at e; cases e
    | some i =>
      rw [q1] at e
      cases q2 : xs[i]? with
      | none => simp only [q2] at e; cases e
      | some d =>
        cases q3 : permL ks ps xs with
        | none => simp only [q2, q3] at e; cases e
        | some r' =>
          simp only [q2, q3] at e
          cases e
          simp [permL_len q3]
theorem s_callK {ks ps : List Str} {F : FV} {g : AV} (h : tE K W (dCallK ps ks F g) σ H Q) : tCallKS ks ps (spD K ps.length F) (WE W) (tA K W g) σ H Q := by
  obtain ⟨ss, Af, rp, h⟩ := h
  refine bindW rp h fun xs vs H1 s1 Af1 B1 e1 r1 l1 n1 d1 st1 h => ?_
  unfold callK at h
  split at h
  · rename_i ds q
    split at h
    rotate_left
    · exact h.elim
    rename_i hlen
    split at h
    · rename_i es q2
      obtain ⟨lp, hB⟩ := pures_lay q l1
      obtain ⟨ws, z1, z2⟩ := permL_lay lp q2
      refine ⟨by rw [LayL.len lp]; exact hlen, ws, z1, es, fun _ => [], permL_len q2, pure_rep r1.zl z2, ?_⟩
      cases q3 : F es with
      | err => rw [q3] at h; exact h
      | ok d as =>
        rw [q3] at h
        rintro v H2 ⟨Af2, B2, r2, l2, n2, d2, st2⟩
        have st : Stp H1 (fun _ => False) H2 (fun b => b ∈ B2) := ⟨st2.kp, fun b o nf e => st2.keep b o (fun ⟨_, z⟩ => nomatch z) e, fun b z => (st2.new b (.inr z)).elim (fun ⟨_, y⟩ => nomatch y) .inr⟩
        have stF : Stp H1 (Own Af1) H2 (fun b => Own Af1 b ∨ b ∈ B2) := ⟨st.kp, fun b o _ e => st.keep b o id e, fun b z => z.elim .inl fun y => (st.new b y).elim False.elim .inr⟩
        refine h v H2 ⟨Af1, B2, r1.step st fun _ _ z => z, l2, n2, fun a ha z => ?_, stF⟩
        obtain ⟨o, eo, _⟩ := r1.there z
        exact st.out id eo ha
      | exc e as =>
        rw [q3] at h
        rintro cls x H2 ⟨Af2, r2, x2, st2⟩
        have st : Stp H1 (fun _ => False) H2 (fun _ => False) := ⟨st2.kp, fun b o nf e => st2.keep b o (fun ⟨_, z⟩ => nomatch z) e, fun b z => z.elim⟩
        have stF : Stp H1 (Own Af1) H2 (Own Af1) := ⟨st.kp, fun b o _ e => st.keep b o id e, fun b z => .inl z⟩
        exact h cls x H2 ⟨Af1, r1.step st fun _ _ z => z, x2, stF⟩
    · exact h.elim
  · exact h.elim
end
end Dn

set_option Elab.async false
set_option linter.all false
set_option maxRecDepth 100000
set_option maxHeartbeats 4000000
/-! Dn6b: targets, what is walked; comprehensions. -/
namespace Dn
open PySem L2
variable [ZS]

def Lk (L : List Nat) (σ σ' : St) : Prop := ∀ i ∈ L, σ'[i]? = σ[i]?
theorem Lk.refl {L : List Nat} {σ : St} : Lk L σ σ := fun _ _ => rfl
theorem Lk.trans {L : List Nat} {σ0 σ1 σ2 : St} (a : Lk L σ0 σ1) (b : Lk L σ1 σ2) : Lk L σ0 σ2 := fun i hi => (b i hi).trans (a i hi)
def foldA : List EV → AV
  | [] => dNilA
  | f :: fs => dConsA f (foldA fs)
/-! ### targets of pure values -/
inductive Tg where
  | nm (i : Nat) | tp (is : List Nat) | tn (ts : List Tg)
def set1 (L : List Nat) (i : Nat) (d : D) (ss : Sl) : Option Sl := if i ∈ L ∨ ss.length ≤ i then none else some (ss.set i (some d))
def setL (L : List Nat) : List Nat → List D → Sl → Option Sl
  | [], [], ss => some ss
  | i :: is, d :: ds, ss => match set1 L i d ss with
    | some s1 => setL L is ds s1
    | none => none
  | _, _, _ => none
def setTp (L : List Nat) (is : List Nat) (d : D) (ss : Sl) : Option Sl := match d with
  | .tup ds => if ds.length = is.length then setL L is ds ss else none
  | _ => none
def itemsOf (n : Nat) (d : D) : Option (List D) := match d with
  | .tup ds => if ds.length = n then some ds else none
  | _ => none
mutual
def tgSet (L : List Nat) : Tg → D → Sl → Option Sl
  | .nm i, d, ss => set1 L i d ss
  | .tp is, d, ss => setTp L is d ss
  | .tn ts, d, ss => match itemsOf ts.length d with
    | some ds => tgSetL L ts ds ss
    | none => none
def tgSetL (L : List Nat) : List Tg → List D → Sl → Option Sl
  | [], ds, ss => match ds with
    | [] => some ss
    | _ => none
  | t :: ts, ds, ss => match ds with
    | d :: ds => match tgSet L t d ss with
      | some s1 => tgSetL L ts ds s1
      | none => none
    | [] => none
end
def gMany : List Nat → TGs
  | [] => gNil
  | i :: is => gCons (gName i) (gMany is)
mutual
def tgG (K : PySem.W.Frag) : Tg → TG
  | .nm i => gName i
  | .tp is => gTup K is.length (gMany is)
  | .tn ts => gTup K ts.length (tgGs K ts)
def tgGs (K : PySem.W.Frag) : List Tg → TGs
  | [] => gNil
  | t :: ts => gCons (tgG K t) (tgGs K ts)
end
section
variable {K : PySem.W.Frag} {L : List Nat} {H : Hp} {W : WX}
theorem set1_ok {i : Nat} {d : D} {ss s1 : Sl} {σ : St} {Af : Nat → List Addr} {v : V} (r : Rep K H ss σ Af) (l : Lay K H d v []) (e : set1 L i d ss = some s1) :
    Rep K H s1 (σ.set i (some v)) (put Af i []) ∧ Lk L σ (σ.set i (some v)) := by
  unfold set1 at e
  split at e
  · cases e
  · rename_i c
    cases e
    have c1 : i ∉ L := fun z => c (.inl z)
    have c2 : i < ss.length := Nat.lt_of_not_le fun z => c (.inr z)
    exact ⟨r.set l List.nodup_nil (fun a z => nomatch z) (fun a z => nomatch z) c2, fun j hj => List.getElem?_set_ne fun z => c1 (by rw [z]; exact hj)⟩
theorem setL_ok : ∀ {is : List Nat} {ds : List D} {vs : List V} {ss s1 : Sl} {σ : St} {Af : Nat → List Addr} {Q : St → Hp → Prop}, Rep K H ss σ Af → LayL K H ds vs [] → setL L is ds ss = some s1 →
    (∀ σ1 Af1, Rep K H s1 σ1 Af1 → (∀ b, Own Af1 b → Own Af b) → Lk L σ σ1 → Q σ1 H) → gMany is vs σ H Q
  | [], [], vs, ss, s1, σ, Af, Q, r, l, e, q => by
    cases e
    exact ⟨l.1, q σ Af r (fun _ z => z) Lk.refl⟩
  | [], d :: ds, vs, ss, s1, σ, Af, Q, r, l, e, q => by cases e
  | i :: is, [], vs, ss, s1, σ, Af, Q, r, l, e, q => by cases e
  | i :: is, d :: ds, vs, ss, s1, σ, Af, Q, r, l, e, q => by
    obtain ⟨v, ws, e1, l1, l2⟩ := l.uncons0
    unfold setL at e
    cases z : set1 L i d ss with
    | none => rw [z] at e; cases e
    | some s0 =>
      rw [z] at e
      obtain ⟨r1, k1⟩ := set1_ok r l1 z
      exact ⟨v, ws, e1, setL_ok r1 l2 e fun σ1 Af1 r2 o2 k2 => q σ1 Af1 r2 (fun b hb => own_clear (o2 b hb)) (k1.trans k2)⟩
theorem itemsOf_get {n : Nat} {d : D} {ds : List D} (h : itemsOf n d = some ds) : d = .tup ds ∧ ds.length = n := by
  unfold itemsOf at h
  split at h
  · split at h
    · cases h; exact ⟨rfl, ‹_›⟩
    · cases h
  · cases h
theorem setTp_ok {is : List Nat} {d : D} {ss s1 : Sl} {σ : St} {Af : Nat → List Addr} {v : V} {Q : St → Hp → Prop} (r : Rep K H ss σ Af) (l : Lay K H d v []) (e : setTp L is d ss = some s1)
    (q : ∀ σ1 Af1, Rep K H s1 σ1 Af1 → (∀ b, Own Af1 b → Own Af b) → Lk L σ σ1 → Q σ1 H) : gTup K is.length (gMany is) v σ H Q := by
  unfold setTp at e
  split at e
  · split at e
    · rename_i hl
      obtain ⟨_, a, vs, e1, h1, h2⟩ := l
      exact ⟨a, vs, e1, h1, by rw [LayL.len h2]; exact hl, setL_ok r h2 e q⟩
    · cases e
  · cases e
mutual
theorem tg_ok : ∀ {tg : Tg} {d : D} {ss s1 : Sl} {σ : St} {Af : Nat → List Addr} {v : V} {Q : St → Hp → Prop}, Rep K H ss σ Af → Lay K H d v [] → tgSet L tg d ss = some s1 →
    (∀ σ1 Af1, Rep K H s1 σ1 Af1 → (∀ b, Own Af1 b → Own Af b) → Lk L σ σ1 → Q σ1 H) → tgG K tg v σ H Q
  | .nm i, d, ss, s1, σ, Af, v, Q, r, l, e, q => by
    unfold tgSet at e
    obtain ⟨r1, k1⟩ := set1_ok r l e
    unfold tgG
    exact q _ _ r1 (fun b hb => own_clear hb) k1
  | .tp is, d, ss, s1, σ, Af, v, Q, r, l, e, q => by
    unfold tgSet at e
    unfold tgG
    exact setTp_ok r l e q
  | .tn ts, d, ss, s1, σ, Af, v, Q, r, l, e, q => by
    unfold tgSet at e
    unfold tgG
    split at e
    · rename_i ds h
      obtain ⟨e1, e2⟩ := itemsOf_get h
      subst e1
      obtain ⟨_, a, vs, e1, h1, h2⟩ := l
      exact ⟨a, vs, e1, h1, by rw [LayL.len h2]; exact e2, tgs_ok r h2 e q⟩
    · cases e
theorem tgs_ok : ∀ {ts : List Tg} {ds : List D} {ss s1 : Sl} {σ : St} {Af : Nat → List Addr} {vs : List V} {Q : St → Hp → Prop}, Rep K H ss σ Af → LayL K H ds vs [] → tgSetL L ts ds ss = some s1 →
    (∀ σ1 Af1, Rep K H s1 σ1 Af1 → (∀ b, Own Af1 b → Own Af b) → Lk L σ σ1 → Q σ1 H) → tgGs K ts vs σ H Q
  | [], ds, ss, s1, σ, Af, vs, Q, r, l, e, q => by
    unfold tgSetL at e
    unfold tgGs
    split at e
    · cases e
      exact ⟨l.1, q σ Af r (fun _ z => z) Lk.refl⟩
    · cases e
  | t :: ts, ds, ss, s1, σ, Af, vs, Q, r, l, e, q => by
    unfold tgSetL at e
    unfold tgGs
    split at e
    · rename_i d ds
      obtain ⟨v, ws, e1, l1, l2⟩ := l.uncons0
      cases z : tgSet L t d ss with
      | none => rw [z] at e; cases e
      | some s0 =>
        rw [z] at e
        exact ⟨v, ws, e1, tg_ok r l1 z fun σ1 Af1 r1 o1 k1 => tgs_ok r1 l2 e fun σ2 Af2 r2 o2 k2 => q σ2 Af2 r2 (fun b hb => o1 b (o2 b hb)) (k1.trans k2)⟩
    · cases e
end
/-! ### what is walked -/
structure ItD where
  ds : List D
  src : Option (Nat × List D)
abbrev IV := Sl → R ItD
def Src (K : PySem.W.Frag) (σ : St) (H1 : Hp) (it : ItD) (H : Hp) : Prop := match it.src with
  | none => Kp H1 H
  | some (j, es) => ∃ v B, σ[j]? = some (some v) ∧ Lay K H (.ml es) v B
def ItOk (K : PySem.W.Frag) (σ : St) (H1 : Hp) (it : ItD) (J : It) : Prop :=
  (∀ i H, Src K σ H1 it H → it.ds.length ≤ i → J.stop i H) ∧
    ∀ i H d, Src K σ H1 it H → it.ds[i]? = some d → J.go i H ∧ ∀ x H', J.yld i H x H' → Lay K H' d x [] ∧ Stp H (fun _ => False) H' (fun _ => False)
def LayI (K : PySem.W.Frag) (σ : St) (H : Hp) (it : ItD) (J : It) (B : List Addr) : Prop := B = [] ∧ ItOk K σ H it J
abbrev tI (K : PySem.W.Frag) (W : WX) (f : IV) : TI := fun σ H R => tD (LayI K σ) K W f σ H R
/-- walked over a list or tuple -/
def seqIt (x : Vx) (ss : Sl) : R ItD := match x with
  | .val (.tup ds) => .ok ⟨ds, none⟩ ss
  | .val (.lst ds) => .ok ⟨ds, none⟩ ss
  | .val (.kl ds) => .ok ⟨ds, none⟩ ss
  | .plc j => match ss[j]? with
    | some (some (.ml ds)) => if allPure ds = true then .ok ⟨ds, some (j, ds)⟩ ss else .err
    | _ => .err
  | _ => .err
def dSeqIt (f : EV) : IV := fun ss => (f ss).bind seqIt
def revIt (x : Vx) (ss : Sl) : R ItD := match x with
  | .val (.tup ds) => .ok ⟨ds.reverse, none⟩ ss
  | .val (.lst ds) => .ok ⟨ds.reverse, none⟩ ss
  | .val (.kl ds) => .ok ⟨ds.reverse, none⟩ ss
  | .plc j => match ss[j]? with
    | some (some (.ml ds)) => if allPure ds = true then .ok ⟨ds.reverse, some (j, ds)⟩ ss else .err
    | _ => .err
  | _ => .err
def dRevIt (f : EV) : IV := fun ss => (f ss).bind revIt
def rngD (lo : Int) (n : Nat) : List D := (List.range n).map fun (i : Nat) => D.int (lo + (i : Int))
def smallI (i : Int) : Bool := decide (-(2 ^ 62) ≤ i) && decide (i < 2 ^ 62)
def rngIt (xs : List Vx) (ss : Sl) : R ItD := match xs with
  | [.val (.int j)] => if smallI j = true then .ok ⟨rngD 0 j.toNat, none⟩ ss else .err
  | [.val (.int i), .val (.int j)] => if (smallI i && smallI j) = true then .ok ⟨rngD i (j - i).toNat, none⟩ ss else .err
  | _ => .err
def dRng (g : AV) : IV := fun ss => (g ss).bind rngIt
theorem stpF {H : Hp} : Stp H (fun _ => False) H (fun _ => False) := Stp.refl
theorem it_list {σ : St} {H1 : Hp} {it : ItD} {a : Addr} (h : ∀ H, Src K σ H1 it H → ∃ vs, SqL K H a vs ∧ LayL K H it.ds vs []) : ItOk K σ H1 it (Itl K a) := by
  refine ⟨fun i H s hl => ?_, fun i H d s hd => ?_⟩
  · obtain ⟨vs, h1, h2⟩ := h H s
    exact ⟨vs, h1, by rw [LayL.len h2]; exact hl⟩
  · obtain ⟨vs, h1, h2⟩ := h H s
    obtain ⟨v, q1, q2⟩ := h2.get0 hd
    refine ⟨⟨vs, v, h1, q1⟩, fun x H' y => ?_⟩
    obtain ⟨e, y⟩ := y
    subst e
    have := y vs h1
    rw [q1] at this; cases this
    exact ⟨q2, stpF⟩
theorem it_tup {σ : St} {H1 : Hp} {it : ItD} {a : Addr} (h : ∀ H, Src K σ H1 it H → ∃ vs, SqT K H a vs ∧ LayL K H it.ds vs []) : ItOk K σ H1 it (Itt K a) := by
  refine ⟨fun i H s hl => ?_, fun i H d s hd => ?_⟩
  · obtain ⟨vs, h1, h2⟩ := h H s
    exact ⟨vs, h1, by rw [LayL.len h2]; exact hl⟩
  · obtain ⟨vs, h1, h2⟩ := h H s
    obtain ⟨v, q1, q2⟩ := h2.get0 hd
    refine ⟨⟨vs, v, h1, q1⟩, fun x H' y => ?_⟩
    obtain ⟨e, y⟩ := y
    subst e
    have := y vs h1
    rw [q1] at this; cases this
    exact ⟨q2, stpF⟩
theorem rngD_get {lo : Int} {n i : Nat} {d : D} (h : (rngD lo n)[i]? = some d) : i < n ∧ d = .int (lo + (i : Int)) := by
  unfold rngD at h
  rw [List.getElem?_map] at h
  by_cases hi : i < n
  · rw [List.getElem?_range hi] at h
    exact ⟨hi, by simpa using h.symm⟩
  · rw [List.getElem?_eq_none (by simpa using hi)] at h; cases h
theorem rngD_len {lo : Int} {n : Nat} : (rngD lo n).length = n := by unfold rngD; simp
theorem it_rng {σ : St} {H1 : Hp} {lo : Int} {n : Nat} : ItOk K σ H1 ⟨rngD lo n, none⟩ (Itr lo n) := by
  refine ⟨fun i H s hl => ?_, fun i H d s hd => ?_⟩
  · have hl : (rngD lo n).length ≤ i := hl
    rw [rngD_len] at hl
    exact hl
  · obtain ⟨h1, h2⟩ := rngD_get hd
    subst h2
    refine ⟨h1, fun x H' y => ?_⟩
    obtain ⟨e, y⟩ := y
    subst e; subst y
    exact ⟨⟨rfl, rfl⟩, stpF⟩
theorem s_seqIt {σ : St} {H : Hp} {RR : It → Hp → Prop} {f : EV} (h : tI K W (dSeqIt f) σ H RR) : iList K (tE K W f) σ H RR ∨ iTup K (tE K W f) σ H RR := by
  obtain ⟨ss, Af, rp, h⟩ := h
  by_cases tup : ∃ ds s1, f ss = .ok (.val (.tup ds)) s1
  · obtain ⟨ds, s1, e⟩ := tup
    refine .inr (bindW rp h fun x v H1 s1' Af1 B1 e1 r1 l1 n1 d1 st1 h => ?_)
    rw [e] at e1
    cases e1
    have h : Wn (LayI K σ) K W σ H1 (Own Af1) (.ok ⟨ds, none⟩ s1) RR := h
    obtain ⟨z, a, vs, e2, h1, h2⟩ := l1
    refine ⟨a, e2, ⟨vs, h1⟩, Wn.done r1 h ⟨rfl, it_tup fun H2 s => ?_⟩⟩
    have s : Kp H1 H2 := s
    exact ⟨vs, s.sqT h1, LayL.keep s h2⟩
  · refine .inl (bindW rp h fun x v H1 s1' Af1 B1 e1 r1 l1 n1 d1 st1 h => ?_)
    cases x with
    | val d =>
      cases d with
      | tup ds => exact absurd ⟨ds, s1', e1⟩ tup
      | lst ds =>
        have h : Wn (LayI K σ) K W σ H1 (Own Af1) (.ok ⟨ds, none⟩ s1') RR := h
        obtain ⟨z, a, vs, e2, h1, h2⟩ := l1
        refine ⟨a, e2, ⟨vs, h1.sq⟩, Wn.done r1 h ⟨rfl, it_list fun H2 s => ?_⟩⟩
        have s : Kp H1 H2 := s
        exact ⟨vs, (s.fzL h1).sq, LayL.keep s h2⟩
      | kl ds =>
        have h : Wn (LayI K σ) K W σ H1 (Own Af1) (.ok ⟨ds, none⟩ s1') RR := h
        obtain ⟨z, a, vs, e2, h1, h2⟩ := l1
        refine ⟨a, e2, ⟨vs, h1.sq⟩, Wn.done r1 h ⟨rfl, it_list fun H2 s => ?_⟩⟩
        have s : Kp H1 H2 := s
        exact ⟨vs, (s.klL h1).sq, LayL.keep s h2⟩
      | _ => exact h.elim
    | plc j =>
      unfold seqIt at h
      dsimp only at h
      split at h
      · rename_i ds e
        split at h
        · rename_i p
          obtain ⟨z1, z2⟩ := l1
          subst z1
          obtain ⟨v', w1, a, vs, B, e2, h1, h2, h3⟩ := r1.lay j _ e
          rw [z2] at w1; cases w1
          subst e2
          refine ⟨a, rfl, ⟨vs, SqL.of h1⟩, Wn.done r1 h ⟨rfl, it_list fun H2 s => ?_⟩⟩
          obtain ⟨u, B', y1, a', vs', B'', y2, y3, y4, y5⟩ := s
          rw [z2] at y1; cases y1
          cases y2
          have q := layL_pure p y4
          subst q
          exact ⟨vs', SqL.of y3, y4⟩
        · exact h.elim
      · exact h.elim
theorem rev_get {α : Type} {xs : List α} {i : Nat} (h : i < xs.length) : xs.reverse[i]? = xs[xs.length - 1 - i]? := List.getElem?_reverse h
theorem s_revIt {σ : St} {H : Hp} {RR : It → Hp → Prop} {f : EV} (h : tI K W (dRevIt f) σ H RR) : RT.iRevA K (tE K W f) σ H RR := by
  obtain ⟨ss, Af, rp, h⟩ := h
  refine bindW rp h fun x v H1 s1' Af1 B1 e1 r1 l1 n1 d1 st1 h => ?_
  cases x with
  | plc j =>
      unfold revIt at h
      dsimp only at h
      split at h
      · rename_i ds e
        split at h
        · rename_i p
          obtain ⟨z1, z2⟩ := l1
          subst z1
          obtain ⟨v', w1, a, vs, B, e2, h1, h2, h3⟩ := r1.lay j _ e
          rw [z2] at w1; cases w1
          subst e2
          have hl := LayL.len h2
          have src : ∀ {H}, Src K σ H1 ⟨ds.reverse, some (j, ds)⟩ H → ∃ vs', SqL K H a vs' ∧ LayL K H ds vs' [] := fun {H} s => by
            obtain ⟨u, B', y1, a', vs', B'', y2, y3, y4, y5⟩ := s
            rw [z2] at y1; cases y1
            cases y2
            have q := layL_pure p y4
            subst q
            exact ⟨vs', SqL.of y3, y4⟩
          refine ⟨a, vs, rfl, .inl ⟨SqL.of h1, Wn.done r1 h ⟨rfl, fun i H s hi => ?_, fun i H d s hd => ?_⟩⟩⟩
          · have hi : ds.reverse.length ≤ i := hi
            rw [List.length_reverse] at hi
            exact hl ▸ hi
          · obtain ⟨vs', q0, q3⟩ := src s
            have hl' := LayL.len q3
            have hi : i < ds.length := by have := (List.getElem?_eq_some_iff.mp hd).1; simpa using this
            have hd : ds.reverse[i]? = some d := hd
            rw [rev_get hi] at hd
            obtain ⟨u, q1, q2⟩ := q3.get0 hd
            have hll : vs.length = vs'.length := by omega
            rw [← hl] at q1
            refine ⟨⟨hl ▸ hi, vs', u, q0, q1⟩, fun x H' y => ?_⟩
            obtain ⟨e, y⟩ := y
            subst e
            have := y vs' q0
            rw [q1] at this; cases this
            exact ⟨q2, stpF⟩
        · exact h.elim
      · exact h.elim
  | val d =>
    have fin : ∀ {ds : List D} {vs : List V} {a : Addr}, LayL K H1 ds vs [] → (∀ H2, Kp H1 H2 → SqL K H2 a vs) → ItOk K σ H1 ⟨ds.reverse, none⟩ (Itv K a vs.length) := fun {ds vs a} l hs => by
      have hl := LayL.len l
      refine ⟨fun i H s hi => ?_, fun i H d s hd => ?_⟩
      · have hi : ds.reverse.length ≤ i := hi
        rw [List.length_reverse] at hi
        exact hl ▸ hi
      · have s : Kp H1 H := s
        have hi : i < ds.length := by have := (List.getElem?_eq_some_iff.mp hd).1; simpa using this
        have hd : ds.reverse[i]? = some d := hd
        rw [rev_get hi] at hd
        obtain ⟨u, q1, q2⟩ := (LayL.keep s l).get0 hd
        rw [← hl] at q1
        refine ⟨⟨hl ▸ hi, vs, u, hs H s, q1⟩, fun x H' y => ?_⟩
        obtain ⟨e, y⟩ := y
        subst e
        have := y vs (hs _ s)
        rw [q1] at this; cases this
        exact ⟨q2, stpF⟩
    have finT : ∀ {ds : List D} {vs : List V} {a : Addr}, LayL K H1 ds vs [] → (∀ H2, Kp H1 H2 → SqT K H2 a vs) → ItOk K σ H1 ⟨ds.reverse, none⟩ (RT.ItvT K a vs.length) := fun {ds vs a} l hs => by
      have hl := LayL.len l
      refine ⟨fun i H s hi => ?_, fun i H d s hd => ?_⟩
      · have hi : ds.reverse.length ≤ i := hi
        rw [List.length_reverse] at hi
        exact hl ▸ hi
      · have s : Kp H1 H := s
        have hi : i < ds.length := by have := (List.getElem?_eq_some_iff.mp hd).1; simpa using this
        have hd : ds.reverse[i]? = some d := hd
        rw [rev_get hi] at hd
        obtain ⟨u, q1, q2⟩ := (LayL.keep s l).get0 hd
        rw [← hl] at q1
        refine ⟨⟨hl ▸ hi, vs, u, hs H s, q1⟩, fun x H' y => ?_⟩
        obtain ⟨e, y⟩ := y
        subst e
        have := y vs (hs _ s)
        rw [q1] at this; cases this
        exact ⟨q2, stpF⟩
    cases d with
    | tup ds =>
      have h : Wn (LayI K σ) K W σ H1 (Own Af1) (.ok ⟨ds.reverse, none⟩ s1') RR := h
      obtain ⟨z, a, vs, e2, h1, h2⟩ := l1
      exact ⟨a, vs, e2, .inr ⟨h1, Wn.done r1 h ⟨rfl, finT h2 fun _ s => s.sqT h1⟩⟩⟩
    | lst ds =>
      have h : Wn (LayI K σ) K W σ H1 (Own Af1) (.ok ⟨ds.reverse, none⟩ s1') RR := h
      obtain ⟨z, a, vs, e2, h1, h2⟩ := l1
      exact ⟨a, vs, e2, .inl ⟨h1.sq, Wn.done r1 h ⟨rfl, fin h2 fun _ s => (s.fzL h1).sq⟩⟩⟩
    | kl ds =>
      have h : Wn (LayI K σ) K W σ H1 (Own Af1) (.ok ⟨ds.reverse, none⟩ s1') RR := h
      obtain ⟨z, a, vs, e2, h1, h2⟩ := l1
      exact ⟨a, vs, e2, .inl ⟨h1.sq, Wn.done r1 h ⟨rfl, fin h2 fun _ s => (s.klL h1).sq⟩⟩⟩
    | _ => exact h.elim
theorem layXL_1 {σ : St} {x : Vx} {vs : List V} {B : List Addr} (l : LayXL K σ H [x] vs B) : ∃ v, vs = [v] ∧ LayX K σ H x v B := by
  obtain ⟨v, ws, B1, B2, e1, e2, l1, z1, z2⟩ := l
  subst z1; subst z2
  exact ⟨v, e1, by rw [e2, List.append_nil]; exact l1⟩
theorem layXL_2 {σ : St} {x y : Vx} {vs : List V} {B : List Addr} (l : LayXL K σ H [x, y] vs B) : ∃ v w B1 B2, vs = [v, w] ∧ LayX K σ H x v B1 ∧ LayX K σ H y w B2 := by
  obtain ⟨v, ws, B1, B2, e1, e2, l1, l2⟩ := l
  obtain ⟨w, e3, l3⟩ := layXL_1 l2
  subst e3
  exact ⟨v, w, B1, B2, e1, l1, l3⟩
theorem small_of {i : Int} (h : smallI i = true) : -(2 ^ 62) ≤ i ∧ i < 2 ^ 62 := by
  unfold smallI at h
  obtain ⟨h1, h2⟩ := Bool.and_eq_true_iff.mp h
  exact ⟨of_decide_eq_true h1, of_decide_eq_true h2⟩
theorem s_rng1 {σ : St} {H : Hp} {RR : It → Hp → Prop} {f : EV} (h : tI K W (dRng (foldA [f])) σ H RR) : iRng1 (tA K W (foldA [f])) σ H RR := by
  obtain ⟨ss, Af, rp, h⟩ := h
  refine bindW rp h fun x v H1 s1' Af1 B1 e1 r1 l1 n1 d1 st1 h => ?_
  unfold rngIt at h
  split at h
  · rename_i j
    split at h
    · rename_i c
      obtain ⟨c1, c2⟩ := small_of c
      obtain ⟨u, q1, q2⟩ := layXL_1 l1
      have q2 : u = .int j ∧ _ := q2
      exact ⟨j, by rw [q1, q2.1], c1, c2, Wn.done r1 h ⟨rfl, it_rng⟩⟩
    · exact h.elim
  · rename_i i j
    exfalso
    -- one expression gives one value
    have : (foldA [f] ss) = (f ss).bind fun x s1 => .ok [x] s1 := by
      show (f ss).bind _ = _
      cases f ss <;> rfl
    rw [this] at e1
    cases q : f ss with
    | err => rw [q] at e1; cases e1
    | exc e s => rw [q] at e1; cases e1
    | ok x s => rw [q] at e1; cases e1
  · exact h.elim
theorem s_rng2 {σ : St} {H : Hp} {RR : It → Hp → Prop} {f g : EV} (h : tI K W (dRng (foldA [f, g])) σ H RR) : iRng2 (tA K W (foldA [f, g])) σ H RR := by
  obtain ⟨ss, Af, rp, h⟩ := h
  refine bindW rp h fun x v H1 s1' Af1 B1 e1 r1 l1 n1 d1 st1 h => ?_
  unfold rngIt at h
  split at h
  · rename_i j
    exfalso
    have : (foldA [f, g] ss) = (f ss).bind fun x s1 => (g s1).bind fun y s2 => .ok [x, y] s2 := by
      show (f ss).bind _ = _
      cases f ss with
      | err => rfl
      | exc e s => rfl
      | ok x s =>
        show R.bind ((g s).bind _) _ = (g s).bind _
        cases g s <;> rfl
    rw [this] at e1
    cases q : f ss with
    | err => rw [q] at e1; cases e1
    | exc e s => rw [q] at e1; cases e1
    | ok x s =>
      rw [q] at e1
      dsimp only [R.bind_ok] at e1
      cases q2 : g s with
      | err => rw [q2] at e1; cases e1
      | exc e s => rw [q2] at e1; cases e1
      | ok y s => rw [q2] at e1; cases e1
  · rename_i i j
    split at h
    · rename_i c
      obtain ⟨c, c'⟩ := Bool.and_eq_true_iff.mp c
      obtain ⟨c1, c2⟩ := small_of c
      obtain ⟨c3, c4⟩ := small_of c'
      obtain ⟨u, w, C1, C2, q1, q2, q3⟩ := layXL_2 l1
      have q2 : u = .int i ∧ _ := q2
      have q3 : w = .int j ∧ _ := q3
      exact ⟨i, j, by rw [q1, q2.1, q3.1], ⟨c1, c2, c3, c4⟩, Wn.done r1 h ⟨rfl, it_rng⟩⟩
    · exact h.elim
  · exact h.elim

end
end Dn

set_option Elab.async false
set_option linter.all false
set_option maxRecDepth 100000
set_option maxHeartbeats 4000000
/-! Dx6: enumerate of a tuple. -/
namespace Dx
open PySem PySem.Spec PyProof.Rows L2
open Sem (wp)
open AutoSeq1 (wpAny_loadPart')
theorem meets_enum_newT (l : Addr) (items : Array Value) (n : Nat) (dct : Option Addr) (sl : Array (Option Value)) :
    Meets (Builtin.«enumerate.__new__» ⟨[.type "enumerate", .ref l], []⟩) (fun _ R s => s.heap.get? l = some { cls := .type "tuple", dict := dct, data := .seq items n, slots := sl } ∧
      R (.ok (.ret (.ref (s.heap.push { cls := .type "tuple_iterator", data := .fields #[.ref l, .int 0 0] }).objs.size)))
        { s with heap := (s.heap.push { cls := .type "tuple_iterator", data := .fields #[.ref l, .int 0 0] }).push { cls := .type "enumerate", data := .fields #[.none, .bool false, .ref s.heap.objs.size, rawInt 0, .none, .none] } }) :=
  .of_wp fun prog w A R s h => by
    obtain ⟨hp, g, d, tk, os⟩ := s; obtain ⟨hl, h⟩ := h
    have hsub := sub_enumerate
    have hL : Heap.IsTuple (Shared.heap ⟨hp, g, d, tk, os⟩) l items := ⟨_, hl, rfl, n, rfl⟩
    wp_walk using wpAny_loadPart' hl
    refine wpAny_stack_any fun st => wpAny_pure ?_
    split
    · rename_i c _ _ _ _ _
      cases (c == Value.type "enumerate")
      · wp_walk using wpAny_loadPart' hl, wpAny_pyIter_tuple hL
        exact ⟨_, rfl, h⟩
      · wp_walk using wpAny_loadPart' hl, wpAny_pyIter_tuple hL
        exact ⟨_, rfl, h⟩
    · wp_walk using wpAny_loadPart' hl, wpAny_pyIter_tuple hL
      exact ⟨_, rfl, h⟩
section
variable {prog : Program} {w : World} {A : Around} {E : Value → Shared → Prop} {s : Shared}
theorem call_enum_tuple {l : Addr} {items : Array Value} {Q : Value → Shared → Prop} (hL : s.heap.IsTuple l items)
    (h : ∀ h', IsEnum h' (s.heap.objs.size + 1) s.heap.objs.size 0 .none → h'.IsTupleIter s.heap.objs.size l 0 → h'.objs.size = s.heap.objs.size + 2 →
      (∀ b o, s.heap.get? b = some o → h'.get? b = some o) → Q (.ref (s.heap.objs.size + 1)) { s with heap := h' }) :
    wpAny (model prog w) A (call (.type "enumerate") [.ref l]) Q E s := by
  obtain ⟨⟨c, dct, dt, sl⟩, hl, hc, n, hd⟩ := hL
  replace hc : c = .type "tuple" := hc
  replace hd : dt = .seq items n := hd
  subst hc hd
  refine callType_new F.called_enumerate (by decide) (F.typeCall_enumerate_1 _) (F.newCall_enumerate_1 _) (fun obj => F.args_object_init_2 obj _) F.entry_enumerate_new
    (meets_enum_newT l items n dct sl) ⟨hl, ?_⟩
  have hz : (s.heap.push { cls := .type "tuple_iterator", data := .fields #[.ref l, .int 0 0] }).objs.size = s.heap.objs.size + 1 := Heap.size_push ..
  show _ ∧ _
  rw [hz]
  have he : IsEnum ((s.heap.push { cls := .type "tuple_iterator", data := .fields #[.ref l, .int 0 0] }).push
      { cls := .type "enumerate", data := .fields #[.none, .bool false, .ref s.heap.objs.size, rawInt 0, .none, .none] }) (s.heap.objs.size + 1) s.heap.objs.size 0 .none := by
    have := Heap.get?_push_size (s.heap.push { cls := .type "tuple_iterator", data := .fields #[.ref l, .int 0 0] })
      (o := { cls := .type "enumerate", data := .fields #[.none, .bool false, .ref s.heap.objs.size, rawInt 0, .none, .none] }) rfl
    rw [hz] at this; exact this
  refine ⟨⟨_, he, rfl⟩, h _ he ⟨_, Heap.get?_push_of_some _ (Heap.get?_push_size _ rfl), rfl, rfl⟩ (by rw [Heap.size_push, hz]) fun b o x => Heap.get?_push_of_some _ (Heap.get?_push_of_some _ x)⟩
end
section
variable {prog : Program} {w : World} {A : Around} {E : Value → Shared → Prop} {s : Shared}
theorem enum_end_tuple {e it l : Addr} {i : Nat} {items : Array Value} {old : Value} {Q : Option Value → Shared → Prop} (hh : A.handled = none)
    (he : IsEnum s.heap e it i old) (hit : s.heap.IsTupleIter it l i) (hl : s.heap.IsTuple l items) (hx : items[i]? = none)
    (hQ : ∀ h', Heap.ExtBut it s.heap h' → Q none { s with heap := h' }) : wpAny (model prog w) A (pyNext (.ref e)) Q E s := by
  have hT : s.TypeIs (.ref e) "enumerate" := ⟨_, he, rfl⟩
  unfold pyNext
  refine wpAny_bind (wpAny_attempt (wpAny_callSpecial?_slot (name := Str.ofString "__next__") hT F.slot_enumerate_next
    (wpAny_call_entry F.slot_enumerate_next hT F.entry_enumerate_next ?_ (F.args_enumerate_next_1 _))))
  show wpAny _ _ (field (.ref e) 2 >>= _) _ _ _
  refine wpAny_bind (wpAny_field he rfl (x := .ref it) rfl ?_)
  refine wpAny_bind (wpAny_nextOf_tuple_end (show A.in1.handled = none from hh) hit hl hx fun h' x he' hx' => ?_)
  obtain ⟨o, ho, hc⟩ := hx'
  refine wpAny_bind (wpAny_isInstance (T := "StopIteration") (b := true) ⟨o, ho, hc⟩ isSubtype_stop ?_)
  exact wpAny_pure (hQ _ he')
end
/-- the tuple at a, each item in a new pair -/
def IteT (K : PySem.W.Frag) (a : Addr) : It :=
  ⟨fun i H => ∃ (xs : List V) (x : V), SqT K H a xs ∧ xs[i]? = some x, fun i H v H' => ∃ T x, v = .ref T ∧ H T = none ∧ H' = upd H T (.tup [.int (i : Nat), x]) ∧ ∀ xs, SqT K H a xs → xs[i]? = some x, fun i H => ∃ xs : List V, SqT K H a xs ∧ xs.length ≤ i⟩
theorem turn_enumT {P : Program} {w : World} {K : PySem.W.Frag} {elts : List Expr} {kk : Nat} {tpos : Pos} (a e it : Addr) :
    Turn P w K (.Tuple elts kk tpos) (IteT K a) [e, it] e (fun i h => (∃ old, IsEnum h e it ((i : Nat) : Int) old) ∧ h.IsTupleIter it a i ∧ e ≠ it ∧ e ≠ a ∧ a ≠ it) where
  mem := by simp
  obj := fun i h st b hb => by
    obtain ⟨⟨old, he⟩, ⟨o, ho, hc, hd⟩, _⟩ := st
    have e' : b = e ∨ b = it := by simpa using hb
    rcases e' with z | z
    · rw [z]; exact ⟨_, he, fun v q => nomatch q⟩
    · rw [z]; exact ⟨o, ho, fun v q => by rw [hd] at q; cases q⟩
  keep := fun i h h' st k => let ⟨⟨old, he⟩, hi, hne⟩ := st; ⟨⟨old, k e (by simp) _ he⟩, hi.at fun o q => k it (by simp) o q, hne⟩
  item := by
    intro X hP hw hK hc i pins s σ H E I hf st hg
    subst hP hw hK
    obtain ⟨⟨old, he⟩, hit, hne, hea, hai⟩ := st
    obtain ⟨xs, x, hq, hx⟩ := hg
    obtain ⟨its, rv, p, hz⟩ := I.tuple hq
    obtain ⟨u, hu, ru⟩ := rv.get hx
    have hel : e < s.heap.objs.size := Heap.lt_size he
    have hT : s.heap.IsTuple a its.toArray := p
    have hul : i < its.toArray.size := by
      have := (List.getElem?_eq_some_iff.mp hu).1
      simpa using this
    refine wpAny_pyNext_enum_itemD (Draws.tuple (show X.A.in1.handled = none from I.ok.hd hc) it a hai its.toArray) he ⟨hit, hT⟩ hul hne (by simp [hne, hea]) fun y h' tk hy ho hst hT hsz hk => ?_
    have hy' : y = u := by
      have h1 : its.toArray[i]? = some y := hy
      have h2 : its.toArray[i]? = some u := by simpa using hu
      rw [h2] at h1; cases h1; rfl
    subst hy'
    refine ⟨_, rfl, wpAny_letOwnedTupleGo_enum (s := { s with heap := h', toks := tk + 1 }) ho fun h'' he' sb => ?_⟩
    have hT2 : h''.get? s.heap.objs.size = some { cls := .type "tuple", data := .seq #[.int i tk, y] } := (sb.2 _ (Nat.ne_of_gt hel)).trans hT
    have new : ObjOk X.prog X.w (upd H s.heap.objs.size (.tup [.int (i : Nat), x])) h'' s.heap.objs.size (.tup [.int (i : Nat), x]) :=
      ⟨by show 2 ≤ sizeLine; decide, [.int i tk, y], .cons ⟨_, rfl⟩ (.cons ru .nil), ⟨_, hT2, rfl, _, rfl⟩⟩
    have I1 : Inv X pins σ (upd H s.heap.objs.size (.tup [.int (i : Nat), x])) { s with heap := h'', toks := tk + 1 } :=
      I.turnedNew (ch := [e, it]) (fun b ob hb q => (sb.2 b (fun z => hb (by simp [z]))).trans (hk b ob (fun z => hb (by simp [z])) (fun z => hb (by simp [z])) q)) hf (Nat.le_refl _) new
    refine ⟨.ref s.heap.objs.size, _, I1, rfl, ⟨_, x, rfl, I.hok.fresh (Nat.le_refl _), rfl, fun ys hy => by rw [I.tuple_inj hy hq]; exact hx⟩, ⟨⟨y, ?_⟩, hst.1.at fun o q => (sb.2 it (Ne.symm hne)).trans q, hne, hea, hai⟩, fun b hb => ?_⟩
    · have e1 : ((i + 1 : Nat) : Int) = (i : Int) + 1 := by omega
      rw [e1]; exact he'
    · have hb' : b < s.heap.objs.size := by
        have e' : b = e ∨ b = it := by simpa using hb
        rcases e' with z | z
        · rw [z]; exact hel
        · rw [z]; obtain ⟨_, q, _⟩ := hit; exact Heap.lt_size q
      rw [upd_ne (Nat.ne_of_lt hb')]
      exact (hf b hb).1
  done := by
    intro X hP hw hK hc i pins s σ H E I hf st hg
    subst hP hw hK
    obtain ⟨⟨old, he⟩, hit, hne, hea, hai⟩ := st
    obtain ⟨xs, hq, hx⟩ := hg
    obtain ⟨its, rv, p, hz⟩ := I.tuple hq
    obtain ⟨f0, f1, f2, f3, f4, f5⟩ := hf it (by simp)
    have hl := rv.length
    have hT : s.heap.IsTuple a its.toArray := p
    exact enum_end_tuple (I.ok.hd hc) he hit hT (by simp; omega) fun h' eb => ⟨rfl, I.turned (t' := s.toks) (fun b o hb q => eb b o hb q) f0 f1 f3 f4 f5⟩
  self := fun A i s Q E st h => let ⟨⟨_, he⟩, _⟩ := st; wpAny_pyIter_enum he h
def iEnumT (K : PySem.W.Frag) (ta : TA) : TI := fun σ H R => ta σ H fun vs H1 => ∃ a xs, vs = [.ref a] ∧ SqT K H1 a xs ∧ R (IteT K a) H1
theorem pi_enumT {X : Cx} {e : Expr} {ta : TA} {p pos tpos : Pos} {elts : List Expr} {kk : Nat} (hg : Gl X "enumerate") (hm : X.mg "enumerate" = none) (ha : PA X [e] ta) (hs : starEach [e] X.env = [(false, eval e X.env)] := by rfl) :
    PI X (.Tuple elts kk tpos) (.Call (.Name "enumerate" p) [e] [] pos) (iEnumT X.K ta) := by
  refine ⟨fun pins s σ H R I h => ?_⟩
  refine Call_ (ld_blt I hg hm boot_enumerate (PyProof.Rows.callWith_type1 (thn (ha.run pos pins s σ H _ I h) fun us s1 ⟨vs, H1, I1, r1, q1⟩ => ?_) hs rfl))
  obtain ⟨a, xs, ex, hq, q⟩ := q1
  subst ex
  cases r1 with
  | cons r rr =>
    cases rr
    cases r
    obtain ⟨its, rv, p', hz⟩ := I1.tuple hq
    have hT : s1.heap.IsTuple a its.toArray := p'
    have hal : a < s1.heap.objs.size := by obtain ⟨_, q, _⟩ := hT; exact Heap.lt_size q
    refine call_enum_tuple hT fun h' he hit hsz hk => wpAny_pyIter_enum he ?_
    have I2 : Inv X pins σ H1 { s1 with heap := h' } := I1.kept (t' := s1.toks) hk
    refine ⟨s1.heap.objs.size + 1, [s1.heap.objs.size + 1, s1.heap.objs.size], _, _, H1, rfl, I2, turn_enumT a (s1.heap.objs.size + 1) s1.heap.objs.size, ⟨⟨.none, he⟩, hit, Nat.succ_ne_self _, Nat.ne_of_gt (Nat.lt_succ_of_lt hal), Nat.ne_of_lt hal⟩, fun b hb => ?_, q⟩
    have e' : b = s1.heap.objs.size + 1 ∨ b = s1.heap.objs.size := by simpa using hb
    have hle : s1.heap.objs.size ≤ b := by
      rcases e' with z | z
      · rw [z]; exact Nat.le_add_right _ _
      · rw [z]; exact Nat.le_refl _
    exact I1.fpOk hle (I1.hok.fresh hle)
end Dx

set_option Elab.async false
set_option linter.all false
set_option maxRecDepth 100000
set_option maxHeartbeats 4000000
/-! Dn6c: enumerate, zip; list comprehensions. -/
namespace Dn
open PySem L2
variable [ZS]

/-! ### enumerate, zip -/
def enumD (ds : List D) : List D := ds.zipIdx.map fun p => .tup [.int (p.2 : Nat), p.1]
def enumIt (xs : List Vx) (ss : Sl) : R ItD := match xs with
  | [.val (.lst ds)] => .ok ⟨enumD ds, none⟩ ss
  | [.val (.tup ds)] => .ok ⟨enumD ds, none⟩ ss
  | [.val (.kl ds)] => .ok ⟨enumD ds, none⟩ ss
  | [.plc j] => match ss[j]? with
    | some (some (.ml ds)) => if allPure ds = true then .ok ⟨enumD ds, some (j, ds)⟩ ss else .err
    | _ => .err
  | _ => .err
def dEnum (g : AV) : IV := fun ss => (g ss).bind enumIt
def zipD (ds es : List D) : List D := (ds.zip es).map fun p => .tup [p.1, p.2]
/-- a list that stands still -/
def lkD : D → Option (List D)
  | .lst ds => some ds
  | .kl ds => some ds
  | _ => none
def zipLk (o p : Option (List D)) (ss : Sl) : R ItD := match o, p with
  | some ds, some es => .ok ⟨zipD ds es, none⟩ ss
  | _, _ => .err
def zipIt (xs : List Vx) (ss : Sl) : R ItD := match xs with
  | [.val (.tup ds), .val (.tup es)] => .ok ⟨zipD ds es, none⟩ ss
  | [.val d, .val e] => zipLk (lkD d) (lkD e) ss
  | _ => .err
def dZip (g : AV) : IV := fun ss => (g ss).bind zipIt
theorem enumD_len {ds : List D} : (enumD ds).length = ds.length := by simp [enumD]
theorem enumD_get {ds : List D} {i : Nat} {d : D} (h : (enumD ds)[i]? = some d) : ∃ e, ds[i]? = some e ∧ d = .tup [.int (i : Nat), e] := by
  unfold enumD at h
  rw [List.getElem?_map, List.getElem?_zipIdx] at h
  cases q : ds[i]? with
  | none => rw [q] at h; cases h
  | some e =>
    rw [q] at h
    simp at h
    exact ⟨e, rfl, h.symm⟩
theorem zipD_len {ds es : List D} : (zipD ds es).length = min ds.length es.length := by simp [zipD]
theorem zipD_get {ds es : List D} {i : Nat} {d : D} (h : (zipD ds es)[i]? = some d) : ∃ x y, ds[i]? = some x ∧ es[i]? = some y ∧ d = .tup [x, y] := by
  unfold zipD at h
  rw [List.getElem?_map] at h
  cases q : (ds.zip es)[i]? with
  | none => rw [q] at h; cases h
  | some p =>
    rw [q] at h
    obtain ⟨x, y⟩ := p
    obtain ⟨h1, h2⟩ := List.getElem?_zip_eq_some.mp q
    cases h
    exact ⟨x, y, h1, h2, rfl⟩
section
variable {K : PySem.W.Frag} {W : WX} {σ : St} {H : Hp} {RR : It → Hp → Prop}
theorem tup_new {H : Hp} {p : Addr} {ds : List D} {vs : List V} (hp : H p = none) (l : LayL K H ds vs []) : Lay K (upd H p (.tup vs)) (.tup ds) (.ref p) [] ∧ Stp H (fun _ => False) (upd H p (.tup vs)) (fun _ => False) :=
  ⟨⟨rfl, p, vs, rfl, SqT.of upd_same, LayL.keep (Kp.new hp) l⟩, (Stp.laid hp).sub fun b z => z.elim⟩
theorem it_enum {H1 : Hp} {ds : List D} {src : Option (Nat × List D)} {a : Addr} (h : ∀ H, Src K σ H1 ⟨enumD ds, src⟩ H → ∃ vs, SqL K H a vs ∧ LayL K H ds vs []) : ItOk K σ H1 ⟨enumD ds, src⟩ (Ite K a) := by
  refine ⟨fun i H s hl => ?_, fun i H d s hd => ?_⟩
  · obtain ⟨vs, h1, h2⟩ := h H s
    have hl : (enumD ds).length ≤ i := hl
    rw [enumD_len] at hl
    exact ⟨vs, h1, by rw [LayL.len h2]; exact hl⟩
  · obtain ⟨vs, h1, h2⟩ := h H s
    obtain ⟨e, e1, e2⟩ := enumD_get hd
    subst e2
    obtain ⟨v, q1, q2⟩ := h2.get0 e1
    refine ⟨⟨vs, v, h1, q1⟩, fun x H' y => ?_⟩
    obtain ⟨T, u, y1, y2, y3, y4⟩ := y
    have := y4 vs h1
    rw [q1] at this; cases this
    subst y1; subst y3
    exact tup_new y2 (LayL.cons0 ⟨rfl, rfl⟩ (LayL.cons0 q2 LayL.nil))
theorem it_enumT {H1 : Hp} {ds : List D} {src : Option (Nat × List D)} {a : Addr} (h : ∀ H, Src K σ H1 ⟨enumD ds, src⟩ H → ∃ vs, SqT K H a vs ∧ LayL K H ds vs []) : ItOk K σ H1 ⟨enumD ds, src⟩ (Dx.IteT K a) := by
  refine ⟨fun i H s hl => ?_, fun i H d s hd => ?_⟩
  · obtain ⟨vs, h1, h2⟩ := h H s
    have hl : (enumD ds).length ≤ i := hl
    rw [enumD_len] at hl
    exact ⟨vs, h1, by rw [LayL.len h2]; exact hl⟩
  · obtain ⟨vs, h1, h2⟩ := h H s
    obtain ⟨e, e1, e2⟩ := enumD_get hd
    subst e2
    obtain ⟨v, q1, q2⟩ := h2.get0 e1
    refine ⟨⟨vs, v, h1, q1⟩, fun x H' y => ?_⟩
    obtain ⟨T, u, y1, y2, y3, y4⟩ := y
    have := y4 vs h1
    rw [q1] at this; cases this
    subst y1; subst y3
    exact tup_new y2 (LayL.cons0 ⟨rfl, rfl⟩ (LayL.cons0 q2 LayL.nil))
theorem s_enum {f : EV} (h : tI K W (dEnum (foldA [f])) σ H RR) : iEnum K (tA K W (foldA [f])) σ H RR ∨ Dx.iEnumT K (tA K W (foldA [f])) σ H RR := by
  obtain ⟨ss, Af, rp, h⟩ := h
  by_cases tup : ∃ ds s1, foldA [f] ss = .ok [.val (.tup ds)] s1
  · obtain ⟨ds, s1, e⟩ := tup
    refine .inr (bindW rp h fun x v H1 s1' Af1 B1 e1 r1 l1 n1 d1 st1 h => ?_)
    rw [e] at e1
    cases e1
    have h : Wn (LayI K σ) K W σ H1 (Own Af1) (.ok ⟨enumD ds, none⟩ s1) RR := h
    obtain ⟨u, q1, q2⟩ := layXL_1 l1
    obtain ⟨z, a, vs, e2, h1, h2⟩ := (show Lay K H1 (.tup ds) u _ from q2)
    subst e2
    exact ⟨a, vs, q1, h1, Wn.done r1 h ⟨rfl, it_enumT fun H2 s => ⟨vs, (show Kp H1 H2 from s).sqT h1, LayL.keep (show Kp H1 H2 from s) h2⟩⟩⟩
  refine .inl (bindW rp h fun x v H1 s1' Af1 B1 e1 r1 l1 n1 d1 st1 h => ?_)
  unfold enumIt at h
  split at h
  · rename_i ds
    obtain ⟨u, q1, q2⟩ := layXL_1 l1
    obtain ⟨z, a, vs, e2, h1, h2⟩ := (show Lay K H1 (.lst ds) u _ from q2)
    subst e2
    exact ⟨a, vs, q1, h1.sq, Wn.done r1 h ⟨rfl, it_enum fun H2 s => ⟨vs, (Kp.fzL (show Kp H1 H2 from s) h1).sq, LayL.keep (show Kp H1 H2 from s) h2⟩⟩⟩
  · rename_i ds
    exact absurd ⟨ds, s1', e1⟩ tup
  · rename_i ds
    obtain ⟨u, q1, q2⟩ := layXL_1 l1
    obtain ⟨z, a, vs, e2, h1, h2⟩ := (show Lay K H1 (.kl ds) u _ from q2)
    subst e2
    exact ⟨a, vs, q1, h1.sq, Wn.done r1 h ⟨rfl, it_enum fun H2 s => ⟨vs, (Kp.klL (show Kp H1 H2 from s) h1).sq, LayL.keep (show Kp H1 H2 from s) h2⟩⟩⟩
  · rename_i j
    obtain ⟨u, q1, q2⟩ := layXL_1 l1
    split at h
    · rename_i ds e
      split at h
      · rename_i p
        obtain ⟨z1, z2⟩ := q2
        obtain ⟨v', w1, a, vs, B, e2, h1, h2, h3⟩ := r1.lay j _ e
        rw [z2] at w1; cases w1
        subst e2
        refine ⟨a, vs, q1, SqL.of h1, Wn.done r1 h ⟨rfl, it_enum fun H2 s => ?_⟩⟩
        obtain ⟨u, B', y1, a', vs', B'', y2, y3, y4, y5⟩ := s
        rw [z2] at y1; cases y1
        cases y2
        have q := layL_pure p y4
        subst q
        exact ⟨vs', SqL.of y3, y4⟩
      · exact h.elim
    · exact h.elim
  · exact h.elim
theorem lk_lay {d : D} {ds : List D} {v : V} {A : List Addr} (e : lkD d = some ds) (l : Lay K H d v A) : ∃ a vs, v = .ref a ∧ (∀ H', Kp H H' → SqL K H' a vs) ∧ LayL K H ds vs [] := by
  cases d with
  | lst xs => cases e; obtain ⟨_, a, vs, e1, h1, h2⟩ := l; exact ⟨a, vs, e1, fun H' k => (k.fzL h1).sq, h2⟩
  | kl xs => cases e; obtain ⟨_, a, vs, e1, h1, h2⟩ := l; exact ⟨a, vs, e1, fun H' k => (k.klL h1).sq, h2⟩
  | _ => cases e
theorem s_zip {f g : EV} (h : tI K W (dZip (foldA [f, g])) σ H RR) : RZ.iZipA K (tA K W (foldA [f, g])) σ H RR := by
  obtain ⟨ss, Af, rp, h⟩ := h
  refine bindW rp h fun x v H1 s1' Af1 B1 e1 r1 l1 n1 d1 st1 h => ?_
  unfold zipIt at h
  split at h
  · rename_i ds es
    obtain ⟨u, w, C1, C2, q1, q2, q3⟩ := layXL_2 l1
    obtain ⟨z, a, xs, e2, h1, h2⟩ := (show Lay K H1 (.tup ds) u _ from q2)
    obtain ⟨z', b, ys, e3, h3, h4⟩ := (show Lay K H1 (.tup es) w _ from q3)
    subst e2; subst e3
    refine ⟨a, b, xs, ys, q1, .inr ⟨h1, h3, Wn.done r1 h ⟨rfl, fun i H2 s hl => ?_, fun i H2 d s hd => ?_⟩⟩⟩
    · have s : Kp H1 H2 := s
      have hl : (zipD ds es).length ≤ i := hl
      rw [zipD_len] at hl
      refine ⟨xs, ys, s.sqT h1, s.sqT h3, ?_⟩
      rw [LayL.len h2, LayL.len h4]
      omega
    · have s : Kp H1 H2 := s
      obtain ⟨x, y, x1, y1, e⟩ := zipD_get hd
      subst e
      obtain ⟨xv, p1, p2⟩ := (LayL.keep s h2).get0 x1
      obtain ⟨yv, p3, p4⟩ := (LayL.keep s h4).get0 y1
      refine ⟨⟨xs, ys, xv, yv, s.sqT h1, s.sqT h3, p1, p3⟩, fun v H' y => ?_⟩
      obtain ⟨T, x', y', t1, t2, t3, t4, t5⟩ := y
      have z1 := t4 xs (s.sqT h1)
      have z2 := t5 ys (s.sqT h3)
      rw [p1] at z1; cases z1
      rw [p3] at z2; cases z2
      subst t1; subst t3
      exact tup_new t2 (LayL.cons0 p2 (LayL.cons0 p4 LayL.nil))
  · rename_i d0 d1 _
    unfold zipLk at h
    split at h
    rotate_left
    · exact h.elim
    rename_i ds es f1 f2
    obtain ⟨u, w, C1, C2, q1, q2, q3⟩ := layXL_2 l1
    obtain ⟨a, xs, e2, h1, h2⟩ := lk_lay f1 (show Lay K H1 d0 u _ from q2)
    obtain ⟨b, ys, e3, h3, h4⟩ := lk_lay f2 (show Lay K H1 d1 w _ from q3)
    subst e2; subst e3
    refine ⟨a, b, xs, ys, q1, .inl ⟨h1 _ (Kp.refl _), h3 _ (Kp.refl _), Wn.done r1 h ⟨rfl, fun i H2 s hl => ?_, fun i H2 d s hd => ?_⟩⟩⟩
    · have s : Kp H1 H2 := s
      have hl : (zipD ds es).length ≤ i := hl
      rw [zipD_len] at hl
      refine ⟨xs, ys, h1 _ s, h3 _ s, ?_⟩
      rw [LayL.len h2, LayL.len h4]
      omega
    · have s : Kp H1 H2 := s
      obtain ⟨x, y, x1, y1, e⟩ := zipD_get hd
      subst e
      obtain ⟨xv, p1, p2⟩ := (LayL.keep s h2).get0 x1
      obtain ⟨yv, p3, p4⟩ := (LayL.keep s h4).get0 y1
      refine ⟨⟨xs, ys, xv, yv, h1 _ s, h3 _ s, p1, p3⟩, fun v H' y => ?_⟩
      obtain ⟨T, x', y', t1, t2, t3, t4, t5⟩ := y
      have z1 := t4 xs (h1 _ s)
      have z2 := t5 ys (h3 _ s)
      rw [p1] at z1; cases z1
      rw [p3] at z2; cases z2
      subst t1; subst t3
      exact tup_new t2 (LayL.cons0 p2 (LayL.cons0 p4 LayL.nil))
  · exact h.elim
end

section
variable {K : PySem.W.Frag} {H : Hp}
theorem LayL.append : ∀ {ds es : List D} {vs ws : List V} {A B : List Addr}, LayL K H ds vs A → LayL K H es ws B → LayL K H (ds ++ es) (vs ++ ws) (A ++ B)
  | [], es, vs, ws, A, B, h, g => by rw [h.1, h.2]; exact g
  | d :: ds, es, vs, ws, A, B, h, g => by
    obtain ⟨v, us, A1, A2, e1, e2, h1, h2⟩ := h
    subst e1; subst e2
    have := LayL.cons h1 (LayL.append h2 g)
    rw [List.append_assoc]
    exact this
end
/-! ### list comprehensions -/
def wipeS (ss : Sl) : List Nat → Sl
  | [] => ss
  | v :: vs => (wipeS ss vs).set v none
def restS (s0 s1 : Sl) : List Nat → Sl
  | [] => s1
  | v :: vs => (restS s0 s1 vs).set v ((s0[v]?).getD none)
/-- slots that hold nothing of their own -/
def purS (ss : Sl) (vs : List Nat) : Bool := vs.all fun v => match ss[v]? with
  | some (some d) => d.pure
  | _ => true
def outL (n : Nat) (vs : List Nat) : List Nat := (List.range n).filter fun i => !decide (i ∈ vs)
open Classical in
noncomputable def srcOk (it : ItD) (ss : Sl) : Bool := match it.src with
  | none => true
  | some (j, es) => if ss[j]? = some (some (.ml es)) then true else false
noncomputable def lcGo (tg : Tg) (tt : TV) (te : EV) (vs : List Nat) (it : ItD) : List D → List D → Sl → R (List D)
  | [], acc, ss => if (purS ss vs && srcOk it (wipeS ss vs)) = true then .ok acc (wipeS ss vs) else .err
  | d :: r, acc, ss => if (purS ss vs && srcOk it (wipeS ss vs)) = true then match tgSet (outL ss.length vs) tg d (wipeS ss vs) with
      | some s1 => match tt s1 with
        | .ok b s2 => if b = true then match te s2 with
            | .ok (.val x) s3 => if x.pure = true ∧ acc.length < sizeLine then lcGo tg tt te vs it r (acc ++ [x]) s3 else .err
            | _ => .err
          else lcGo tg tt te vs it r acc s2
        | _ => .err
      | none => .err
    else .err
def lcEnd (s1 : Sl) (vs : List Nat) (acc : List D) (s2 : Sl) : R Vx := .ok (.val (.ml acc)) (restS s1 s2 vs)
noncomputable def dLc (f : IV) (tg : Tg) (tt : TV) (te : EV) (vs : List Nat) : EV := fun ss => (f ss).bind fun it s1 => if purS s1 vs = true then (lcGo tg tt te vs it it.ds [] s1).bind (lcEnd s1 vs) else .err
section
variable {K : PySem.W.Frag} {H : Hp} {ss : Sl} {σ : St} {Af : Nat → List Addr}
theorem wipeS_len : ∀ {vs : List Nat}, (wipeS ss vs).length = ss.length
  | [] => rfl
  | v :: vs => by unfold wipeS; rw [List.length_set, wipeS_len]
theorem restS_len {s0 s1 : Sl} : ∀ {vs : List Nat}, (restS s0 s1 vs).length = s1.length
  | [] => rfl
  | v :: vs => by unfold restS; rw [List.length_set, restS_len]
theorem wipeS_in : ∀ {vs : List Nat} {i : Nat}, i ∈ vs → ∀ d, (wipeS ss vs)[i]? ≠ some (some d)
  | v :: vs, i, h, d, e => by
    unfold wipeS at e
    by_cases q : v = i
    · subst q
      by_cases hv : v < (wipeS ss vs).length
      · rw [List.getElem?_set_self hv] at e; cases e
      · rw [List.getElem?_eq_none (by simpa using hv)] at e; cases e
    · rw [List.getElem?_set_ne q] at e
      rcases List.mem_cons.mp h with z | z
      · exact q z.symm
      · exact wipeS_in z d e
theorem wipeS_out : ∀ {vs : List Nat} {i : Nat}, i ∉ vs → (wipeS ss vs)[i]? = ss[i]?
  | [], i, _ => rfl
  | v :: vs, i, h => by
    unfold wipeS
    rw [List.getElem?_set_ne (fun z => h (by rw [z]; exact List.mem_cons_self))]
    exact wipeS_out fun z => h (List.mem_cons_of_mem _ z)
theorem wipe_out' : ∀ {vs : List Nat} {i : Nat}, i ∉ vs → (wipe σ vs)[i]? = σ[i]?
  | [], i, _ => rfl
  | v :: vs, i, h => by
    unfold wipe
    rw [List.getElem?_set_ne (fun z => h (by rw [z]; exact List.mem_cons_self))]
    exact wipe_out' fun z => h (List.mem_cons_of_mem _ z)
theorem wipe_in : ∀ {vs : List Nat} {i : Nat}, i ∈ vs → i < σ.length → (wipe σ vs)[i]? = some none
  | v :: vs, i, h, hi => by
    unfold wipe
    by_cases q : v = i
    · subst q
      exact List.getElem?_set_self (by rw [wipe_length]; exact hi)
    · rw [List.getElem?_set_ne q]
      rcases List.mem_cons.mp h with z | z
      · exact absurd z.symm q
      · exact wipe_in z hi
theorem restS_out {s0 s1 : Sl} : ∀ {vs : List Nat} {i : Nat}, i ∉ vs → (restS s0 s1 vs)[i]? = s1[i]?
  | [], i, _ => rfl
  | v :: vs, i, h => by
    unfold restS
    rw [List.getElem?_set_ne (fun z => h (by rw [z]; exact List.mem_cons_self))]
    exact restS_out fun z => h (List.mem_cons_of_mem _ z)
theorem restS_in {s0 s1 : Sl} : ∀ {vs : List Nat} {i : Nat}, i ∈ vs → i < s1.length → (restS s0 s1 vs)[i]? = some ((s0[i]?).getD none)
  | v :: vs, i, h, hi => by
    unfold restS
    by_cases q : v = i
    · subst q
      exact List.getElem?_set_self (by rw [restS_len]; exact hi)
    · rw [List.getElem?_set_ne q]
      rcases List.mem_cons.mp h with z | z
      · exact absurd z.symm q
      · exact restS_in z hi
theorem purS_emp {vs : List Nat} (r : Rep K H ss σ Af) (p : purS ss vs = true) {v : Nat} (hv : v ∈ vs) : Af v = [] := by
  have := List.all_eq_true.mp p v hv
  cases q : ss[v]? with
  | none => exact r.emp v fun d e => by rw [q] at e; cases e
  | some o =>
    cases o with
    | none => exact r.emp v fun d e => by rw [q] at e; cases e
    | some d =>
      rw [q] at this
      obtain ⟨u, _, l⟩ := r.lay v d q
      exact l.emp this
/-- the block's own slots forgotten; what they hold is nothing of their own -/
theorem wipe_rep {vs : List Nat} (r : Rep K H ss σ Af) (p : ∀ v ∈ vs, Af v = []) : Rep K H (wipeS ss vs) (wipe σ vs) Af := by
  refine ⟨by rw [wipeS_len, wipe_length]; exact r.len, fun i d e => ?_, fun i e => ?_, r.nd, r.dis, r.nz, r.zl⟩
  · by_cases h : i ∈ vs
    · exact absurd e (wipeS_in h d)
    · rw [wipeS_out h] at e
      rw [wipe_out' h]
      exact r.lay i d e
  · by_cases h : i ∈ vs
    · exact p i h
    · exact r.emp i fun d q => e d (by rw [wipeS_out h]; exact q)
theorem rest_rep {H' : Hp} {s1 s2 : Sl} {Af2 : Nat → List Addr} {vs : List Nat} (r : Rep K H s1 σ Af) (pu : purS s1 vs = true) (k : Kp H H') (r2 : Rep K H' s2 (wipe σ vs) Af2) (w2 : ∀ v ∈ vs, ∀ d, s2[v]? ≠ some (some d)) :
    Rep K H' (restS s1 s2 vs) σ Af2 := by
  have hlen : s2.length = σ.length := by have := r2.len; rw [wipe_length] at this; exact this
  refine ⟨by rw [restS_len]; exact hlen, fun i d e => ?_, fun i e => ?_, r2.nd, r2.dis, r2.nz, r2.zl⟩
  · by_cases h : i ∈ vs
    · have hi : i < s2.length := by
        have := (List.getElem?_eq_some_iff.mp e).1
        rw [restS_len] at this
        exact this
      rw [restS_in h hi] at e
      have e1 : s1[i]? = some (some d) := by
        cases q : s1[i]? with
        | none => rw [q] at e; cases e
        | some o => rw [q] at e; simpa using e
      obtain ⟨v, h1, h2⟩ := r.lay i d e1
      have hp : d.pure = true := by
        have := List.all_eq_true.mp pu i h
        rw [e1] at this
        exact this
      have z := h2.emp hp
      rw [z] at h2
      refine ⟨v, h1, ?_⟩
      rw [r2.emp i (w2 i h)]
      exact Lay.keep k h2
    · rw [restS_out h] at e
      obtain ⟨v, h1, h2⟩ := r2.lay i d e
      rw [wipe_out' h] at h1
      exact ⟨v, h1, h2⟩
  · by_cases h : i ∈ vs
    · exact r2.emp i (w2 i h)
    · exact r2.emp i fun d q => e d (by rw [restS_out h]; exact q)
theorem mem_outL {n i : Nat} {vs : List Nat} : i ∈ outL n vs ↔ i < n ∧ i ∉ vs := by
  unfold outL
  rw [List.mem_filter, List.mem_range]
  simp
theorem wipe_same {σ1 : St} {vs : List Nat} (hl : σ1.length = σ.length) (lk : Lk (outL σ.length vs) (wipe σ vs) σ1) : wipe σ1 vs = wipe σ vs := by
  refine List.ext_getElem? fun i => ?_
  by_cases hi : i < σ.length
  · by_cases h : i ∈ vs
    · rw [wipe_in h hi, wipe_in h (hl ▸ hi)]
    · rw [wipe_out' h, lk i (mem_outL.mpr ⟨hi, h⟩)]
  · rw [List.getElem?_eq_none (by rw [wipe_length]; omega), List.getElem?_eq_none (by rw [wipe_length]; omega)]
theorem set1_len {L : List Nat} {i : Nat} {d : D} {s1 : Sl} (e : set1 L i d ss = some s1) : s1.length = ss.length := by
  unfold set1 at e
  split at e
  · cases e
  · cases e; exact List.length_set
theorem setL_len {L : List Nat} : ∀ {is : List Nat} {ds : List D} {ss s1 : Sl}, setL L is ds ss = some s1 → s1.length = ss.length
  | [], [], ss, s1, e => by cases e; rfl
  | [], d :: ds, ss, s1, e => by cases e
  | i :: is, [], ss, s1, e => by cases e
  | i :: is, d :: ds, ss, s1, e => by
    unfold setL at e
    cases z : set1 L i d ss with
    | none => rw [z] at e; cases e
    | some s0 =>
      rw [z] at e
      rw [setL_len e, set1_len z]
theorem setTp_len {L : List Nat} {is : List Nat} {d : D} {s1 : Sl} (e : setTp L is d ss = some s1) : s1.length = ss.length := by
  unfold setTp at e
  split at e
  · split at e
    · exact setL_len e
    · cases e
  · cases e
mutual
theorem tgSet_len {L : List Nat} : ∀ {tg : Tg} {d : D} {ss s1 : Sl}, tgSet L tg d ss = some s1 → s1.length = ss.length
  | .nm i, d, ss, s1, e => by unfold tgSet at e; exact set1_len e
  | .tp is, d, ss, s1, e => by unfold tgSet at e; exact setTp_len e
  | .tn ts, d, ss, s1, e => by
    unfold tgSet at e
    split at e
    · exact tgSetL_len e
    · cases e
theorem tgSetL_len {L : List Nat} : ∀ {ts : List Tg} {ds : List D} {ss s1 : Sl}, tgSetL L ts ds ss = some s1 → s1.length = ss.length
  | [], ds, ss, s1, e => by
    unfold tgSetL at e
    split at e
    · cases e; rfl
    · cases e
  | t :: ts, ds, ss, s1, e => by
    unfold tgSetL at e
    split at e
    · rename_i d ds
      cases z : tgSet L t d ss with
      | none => rw [z] at e; cases e
      | some s0 => rw [z] at e; rw [tgSetL_len e, tgSet_len z]
    · cases e
end
/-- a comprehension's reading -/
theorem s_lc {W : WX} {Q : VK} {f : IV} {tg : Tg} {tt : TV} {te : EV} {vs : List Nat} (h : tE K W (dLc f tg tt te vs) σ H Q) : tLc (tI K W f) (tgG K tg) (tT K (fun _ _ _ _ => False) tt) (tE K (fun _ _ _ _ => False) te) vs σ H Q := by
  obtain ⟨ss, Af, rp, h⟩ := h
  refine bindW rp h fun it J H1 s1 Af1 B1 e1 r1 l1 n1 d1 st1 h => ?_
  obtain ⟨z, ok⟩ := l1
  subst z
  split at h
  rotate_left
  · exact h.elim
  rename_i pu
  intro D hD
  have slen : s1.length = σ.length := r1.len
  -- before turn i: the slots ss', the row so far
  let P : Nat → Hp → Prop := fun i H' => ∃ ss' σ' Af' acc ys, Rep K H' ss' σ' Af' ∧ wipe σ' vs = wipe σ vs ∧ H' D = some (.lst ys) ∧ LayL K H' acc ys [] ∧ ¬ Own Af' D ∧ Stp H1 (Own Af1) H' (fun b => Own Af' b ∨ b = D) ∧
    Wn (LayX K σ) K W σ H1 (Own Af1) ((lcGo tg tt te vs it (it.ds.drop i) acc ss').bind (lcEnd s1 vs)) Q
  have P0 : P 0 (upd H1 D (.lst [])) := by
    refine ⟨s1, σ, Af1, [], [], r1.laid hD, rfl, upd_same, LayL.nil, r1.fresh hD, Stp.laid hD, ?_⟩
    rw [List.drop_zero]; exact h
  refine ⟨fun i m H' => m + i = it.ds.length ∧ P i H', ⟨it.ds.length, rfl, P0⟩, ?_⟩
  rintro i m H' ⟨hm, ss', σ', Af', acc, ys, r0, hw, hD', la, nD, st', h'⟩
  have hl' : ss'.length = σ.length := by
    have h1 := r0.len
    have h2 := congrArg List.length hw
    rw [wipe_length, wipe_length] at h2
    omega
  have rw0 : purS ss' vs = true → Rep K H' (wipeS ss' vs) (wipe σ vs) Af' := fun p => by
    have := wipe_rep r0 fun v hv => purS_emp r0 p hv
    rw [hw] at this
    exact this
  have srcS : Rep K H' (wipeS ss' vs) (wipe σ vs) Af' → srcOk it (wipeS ss' vs) = true → Src K σ H1 it H' := fun r' c => by
    unfold srcOk at c
    unfold Src
    cases q : it.src with
    | none => exact st'.kp
    | some je =>
      obtain ⟨j, es⟩ := je
      rw [q] at c
      dsimp only at c ⊢
      split at c
      · rename_i e
        obtain ⟨v, h1, h2⟩ := r'.lay j _ e
        have hj : j ∉ vs := fun z => wipeS_in z _ e
        rw [wipe_out' hj] at h1
        exact ⟨v, Af' j, h1, h2⟩
      · cases c
  by_cases hi : i < it.ds.length
  · right
    have hd : it.ds.drop i = it.ds[i] :: it.ds.drop (i + 1) := List.drop_eq_getElem_cons hi
    rw [hd] at h'
    unfold lcGo at h'
    split at h'
    rotate_left
    · exact h'.elim
    rename_i c
    obtain ⟨c1, c2⟩ := Bool.and_eq_true_iff.mp c
    have r' := rw0 c1
    obtain ⟨hgo, hy⟩ := ok.2 i H' it.ds[i] (srcS r' c2) (List.getElem?_eq_getElem hi)
    refine ⟨hgo, P (i + 1), fun H2 p => ⟨m - 1, by omega, by omega, p⟩, fun x H2 y => ?_⟩
    obtain ⟨lx, sx⟩ := hy x H2 y
    have r2 : Rep K H2 (wipeS ss' vs) (wipe σ vs) Af' := r'.step sx fun _ _ z => z
    have sx' : Stp H' (fun b => Own Af' b ∨ b = D) H2 (fun b => Own Af' b ∨ b = D) := ⟨sx.kp, fun b o _ e => sx.keep b o id e, fun b hb => .inl hb⟩
    have st2 := st'.trans sx' fun _ z => z
    have hD2 : H2 D = some (.lst ys) := sx.keep D _ id hD'
    have la2 := LayL.keep sx.kp la
    cases q : tgSet (outL ss'.length vs) tg it.ds[i] (wipeS ss' vs) with
    | none => rw [q] at h'; exact h'.elim
    | some s3 =>
      rw [q] at h'
      dsimp only at h'
      refine tg_ok r2 lx q fun σ3 Af3 r3 o3 k3 => ?_
      have l3 : σ3.length = σ.length := by
        have h1 := r3.len
        have h2 := tgSet_len q
        rw [wipeS_len] at h2
        omega
      have k3' : Lk (outL σ.length vs) (wipe σ vs) σ3 := by rw [← hl']; exact k3
      have w3 : wipe σ3 vs = wipe σ vs := wipe_same l3 k3'
      refine ⟨w3, s3, Af3, r3, ?_⟩
      have n3 : ¬ Own Af3 D := fun z => nD (o3 D z)
      have st3 : Stp H1 (Own Af1) H2 (fun b => Own Af3 b ∨ b = D) := st2.sub fun b hb => hb.imp (o3 b) id
      cases q2 : tt s3 with
      | err => rw [q2] at h'; exact h'.elim
      | exc e s => rw [q2] at h'; exact h'.elim
      | ok b s4 =>
        rw [q2] at h'
        dsimp only at h'
        rintro b' H4 ⟨Af4, B4, r4, ⟨z1, z2⟩, _, _, st4⟩
        subst z1; subst z2
        have n4 : ¬ Own Af4 D := fun z => (st4.out n3 hD2) (.inl z)
        have hD4 : H4 D = some (.lst ys) := st4.keep D _ n3 hD2
        have la4 := LayL.keep st4.kp la2
        have st4' : Stp H1 (Own Af1) H4 (fun b => Own Af4 b ∨ b = D) := by
          have t : Stp H2 (fun b => Own Af3 b ∨ b = D) H4 (fun b => Own Af4 b ∨ b = D) := ⟨st4.kp, fun b o nf e => st4.keep b o (fun z => nf (.inl z)) e, fun b hb => hb.elim (fun z => (st4.new b (.inl z)).imp .inl id) fun z => .inl (.inr z)⟩
          exact st3.trans t fun _ z => z
        cases b' with
        | false =>
          rw [if_neg Bool.false_ne_true] at h' ⊢
          exact ⟨s4, σ3, Af4, acc, ys, r4, w3, hD4, la4, n4, st4', h'⟩
        | true =>
          rw [if_pos rfl] at h' ⊢
          refine ⟨s4, Af4, r4, ?_⟩
          cases q3 : te s4 with
          | err => rw [q3] at h'; exact h'.elim
          | exc e s => rw [q3] at h'; exact h'.elim
          | ok y s5 =>
            rw [q3] at h'
            cases y with
            | plc j => exact h'.elim
            | val d =>
              dsimp only at h'
              split at h'
              rotate_left
              · exact h'.elim
              rename_i c3
              obtain ⟨p3, z3⟩ := c3
              rintro v H5 ⟨Af5, B5, r5, l5, _, _, st5⟩
              have l5 : Lay K H5 d v B5 := l5
              have e5 := l5.emp p3
              subst e5
              have n5 : ¬ Own Af5 D := fun z => (st5.out n4 hD4) (.inl z)
              have hD5 : H5 D = some (.lst ys) := st5.keep D _ n4 hD4
              have la5 := LayL.keep st5.kp la4
              have st5' : Stp H1 (Own Af1) H5 (fun b => Own Af5 b ∨ b = D) := by
                have t : Stp H4 (fun b => Own Af4 b ∨ b = D) H5 (fun b => Own Af5 b ∨ b = D) := ⟨st5.kp, fun b o nf e => st5.keep b o (fun z => nf (.inl z)) e, fun b hb => hb.elim (fun z => (st5.new b (.inl z)).imp .inl id) fun z => .inl (.inr z)⟩
                exact st4'.trans t fun _ z => z
              refine ⟨ys, hD5, by rw [LayL.len la5]; exact z3, ?_⟩
              have sw : Stp H5 (fun b => Own Af5 b ∨ b = D) (upd H5 D (.lst (ys ++ [v]))) (fun b => Own Af5 b ∨ b = D) := Stp.wrote (.inr rfl) hD5 (.inl ⟨_, rfl⟩) fun z => r1.zl D z hD
              have sw1 : Stp H5 (fun b => b = D) (upd H5 D (.lst (ys ++ [v]))) (fun b => b = D) := Stp.wrote rfl hD5 (.inl ⟨_, rfl⟩) fun z => r1.zl D z hD
              refine ⟨s5, σ3, Af5, acc ++ [d], ys ++ [v], r5.step sw1 fun b hb z => n5 (z ▸ hb), w3, upd_same, ?_, n5, st5'.trans sw fun _ z => z, h'⟩
              have := LayL.append (LayL.keep sw1.kp la5) (LayL.cons0 (Lay.keep sw1.kp l5) LayL.nil)
              rw [List.append_nil] at this
              exact this
  · left
    have hd : it.ds.drop i = [] := List.drop_eq_nil_of_le (Nat.le_of_not_lt hi)
    rw [hd] at h'
    unfold lcGo at h'
    split at h'
    · rename_i c
      obtain ⟨c1, c2⟩ := Bool.and_eq_true_iff.mp c
      have r' := rw0 c1
      refine ⟨ok.1 i H' (srcS r' c2) (Nat.le_of_not_lt hi), ?_⟩
      have rr := rest_rep r1 pu st'.kp r' fun v hv d => wipeS_in hv d
      refine h' (.ref D) H' ⟨Af', [D], rr, ⟨D, ys, [], rfl, hD', la, rfl⟩, by simp, fun a ha => ?_, st'.sub fun b hb => hb.imp id fun z => by simpa using z⟩
      have : a = D := by simpa using ha
      subst this; exact nD
    · exact h'.elim
end
end Dn

set_option Elab.async false
set_option linter.all false
set_option maxRecDepth 100000
set_option maxHeartbeats 4000000
/-! Dn6d: slices of lists with a step. -/
namespace Dn
open PySem PySem.Spec PyProof.Rows L2
variable [ZS]

def pickL {α : Type} (xs : List α) (lo hi : Option Int) (st : Int) : List α :=
  (sliceRange (sliceBounds lo hi (some st) xs.length).1 (sliceBounds lo hi (some st) xs.length).2.1 (sliceBounds lo hi (some st) xs.length).2.2).filterMap fun i => xs[i]?
def stD (d : D) (lo hi : Option Int) (st : Int) : Option (List D) := match d with
  | .lst ds => if (pickL ds lo hi st).length ≤ sizeLine ∧ allPure (pickL ds lo hi st) = true then some (pickL ds lo hi st) else none
  | .kl ds => if (pickL ds lo hi st).length ≤ sizeLine ∧ allPure (pickL ds lo hi st) = true then some (pickL ds lo hi st) else none
  | .ml ds => if allPure ds = true ∧ (pickL ds lo hi st).length ≤ sizeLine ∧ allPure (pickL ds lo hi st) = true then some (pickL ds lo hi st) else none
  | _ => none
def stO (o : Option (List D)) (ss : Sl) : R Vx := match o with
  | some ds => .ok (.val (.ml ds)) ss
  | none => .err
def op4s (x : Vx) (lo hi st : Option Int) (ss : Sl) : R Vx := match x.get ss, st with
  | some d, some k => if k = 0 then .err else stO (stD d lo hi k) ss
  | _, _ => .err
def dSlSt (f : EV) (lo hi st : OV) : EV := fun ss => (f ss).bind fun x s1 => (lo s1).bind fun l s2 => (hi s2).bind fun u s3 => (st s3).bind fun k s4 => op4s x l u k s4

def tSlSt (K : PySem.W.Frag) (te : TE) (tl tu ts : TO) : TE := fun σ H Q => te σ H fun x H1 => tl σ H1 fun lo H2 => tu σ H2 fun hi H3 => ts σ H3 fun st H4 => ∃ (a : Addr) (xs : List V) (k : Int), x = .ref a ∧ st = some k ∧ k ≠ 0 ∧ SqL K H4 a xs ∧ (pickL xs lo hi k).length ≤ sizeLine ∧ ∀ p, H4 p = none → Q (.ref p) (upd H4 p (.lst (pickL xs lo hi k)))
theorem vals_pick : ∀ {is : List Nat} {xs : List V} {us : List Value}, Vals xs us → Vals (is.filterMap fun i => xs[i]?) (is.filterMap fun i => us[i]?)
  | [], xs, us, r => .nil
  | i :: is, xs, us, r => by
    rw [List.filterMap_cons, List.filterMap_cons]
    cases q : xs[i]? with
    | none =>
      have : us[i]? = none := by
        rw [List.getElem?_eq_none_iff] at q ⊢
        rw [← r.length]; exact q
      rw [this]
      exact vals_pick r
    | some x =>
      obtain ⟨u, hu, ru⟩ := r.get q
      rw [hu]
      exact .cons ru (vals_pick r)
theorem pe_sliceSt {X : Cx} {e est : Expr} {te : TE} {lo hi : Option Expr} {tl tu ts : TO} {p2 pos : Pos} (he : PE X e te) (hl : PO X lo tl) (hu : PO X hi tu) (hst : PO X (some est) ts) :
    PE X (.Subscript e (.Slice lo hi (some est) p2) pos) (tSlSt X.K te tl tu ts) := by
  refine ⟨fun pins s σ H Q I h => ?_⟩
  refine Subscript_ (thn (he.run pins s σ H _ I h) fun v s1 ⟨x, H1, I1, r1, q1⟩ => ?_)
  refine wpAny_Slice (thn (hl.run pins s1 σ H1 _ I1 q1) fun vl s2 ⟨l, H2, I2, pl, q2⟩ => ?_)
  refine thn (hu.run pins s2 σ H2 _ I2 q2) fun vu s3 ⟨u, H3, I3, pu, q3⟩ => ?_
  refine thn (hst.run pins s3 σ H3 _ I3 q3) fun vs s4 ⟨o, H4, I4, ps, q4⟩ => ?_
  obtain ⟨a, xs, k, ex, ek, hk, hx, hz4, q⟩ := q4
  subst ex; subst ek
  cases r1
  have I5 : Inv X pins σ H4 { s4 with heap := s4.heap.push { cls := .type "slice", data := .fields #[vl, vu, vs] } } := I4.kept (t' := s4.toks) fun b ob q => Heap.get?_push_of_some _ q
  obtain ⟨its, r, ht, hz⟩ := I5.list hx
  have hlen := r.length
  show wpAny (model X.prog X.w) X.A (subscriptTail e (.Slice lo hi (some est) p2) (.ref a) (.ref s4.heap.objs.size)) (EP X pins σ Q) X.xe { s4 with heap := s4.heap.push { cls := .type "slice", data := .fields #[vl, vu, vs] } }
  refine tail_any (ops := [.ref a, .ref s4.heap.objs.size]) ht.isList.typeIs (PySem.slot_list_getitem.lookup) ?_ (by with_unfolding_all rfl)
  refine wpAny_getItem_list_slice ht.isList (Heap.IsSliceOf.new _ vl vu vs) pl pu ps (fun z => hk (Option.some.inj z)) ?_ (by rw [List.size_toArray]; omega)
  have ep : slicePick its.toArray l u (some k) = (pickL its l u k).toArray := by
    unfold slicePick pickL
    rw [List.size_toArray]
    congr 2
    funext i
    simp
  rw [ep]
  refine ⟨.ref _, _, I5.laid (t' := s4.toks) (o := .lst (pickL xs l u k)) (fun b ob q => Heap.get?_push_of_some _ q) (Nat.le_refl _) ?_, rfl, q _ (I5.hok.fresh (Nat.le_refl _))⟩
  refine ⟨hz4, pickL its l u k, 0, ?_, Heap.get?_push_size _ rfl⟩
  unfold pickL
  rw [hlen]
  exact vals_pick r
section
variable {K : PySem.W.Frag} {W : WX} {σ : L2.St} {H : Hp} {Q : VK}
theorem layL_pick : ∀ {is : List Nat} {ds : List D} {vs : List V}, LayL K H ds vs [] → LayL K H (is.filterMap fun i => ds[i]?) (is.filterMap fun i => vs[i]?) []
  | [], ds, vs, l => LayL.nil
  | i :: is, ds, vs, l => by
    rw [List.filterMap_cons, List.filterMap_cons]
    cases q : ds[i]? with
    | none =>
      have : vs[i]? = none := by
        rw [List.getElem?_eq_none_iff] at q ⊢
        rw [LayL.len l]; exact q
      rw [this]
      exact layL_pick l
    | some d =>
      obtain ⟨v, hv, lv⟩ := l.get0 q
      rw [hv]
      exact LayL.cons0 lv (layL_pick l)
theorem pick_lay {ds : List D} {vs : List V} {lo hi : Option Int} {k : Int} (l : LayL K H ds vs []) : LayL K H (pickL ds lo hi k) (pickL vs lo hi k) [] := by
  unfold pickL
  rw [LayL.len l]
  exact layL_pick l
theorem s_slSt {f : EV} {lo hi st : OV} (h : tE K W (dSlSt f lo hi st) σ H Q) : tSlSt K (tE K W f) (tO K W lo) (tO K W hi) (tO K W st) σ H Q := by
  obtain ⟨ss, Af, rp, h⟩ := h
  refine bindW rp h fun x v H1 s1 Af1 B1 e1 r1 l1 n1 d1 st1 h => ?_
  refine bindW r1 h fun l l' H2 s2 Af2 B2 e2 r2 l2 n2 d2 st2 h => ?_
  refine bindW r2 h fun u u' H3 s3 Af3 B3 e3 r3 l3 n3 d3 st3 h => ?_
  refine bindW r3 h fun k k' H4 s4 Af4 B4 e4 r4 l4 n4 d4 st4 h => ?_
  obtain ⟨q1, q2⟩ := l2
  subst q1; subst q2
  obtain ⟨q1, q2⟩ := l3
  subst q1; subst q2
  obtain ⟨q1, q2⟩ := l4
  subst q1; subst q2
  have o2 := l1.stay st2 d1
  have dd2 : ∀ a ∈ B1, ¬ Own Af2 a := fun a ha z => (l1.out st2 d1 a ha) (.inl z)
  have o3 := o2.stay st3 dd2
  have dd3 : ∀ a ∈ B1, ¬ Own Af3 a := fun a ha z => (o2.out st3 dd2 a ha) (.inl z)
  have lx : LayX K σ H4 x v B1 := o3.stay st4 dd3
  unfold op4s at h
  split at h
  · rename_i d k g
    split at h
    · exact h.elim
    · rename_i hk
      obtain ⟨A, lay⟩ := lx.read r4 g
      have fin : ∀ {ds : List D} {vs : List V} {a : Addr}, v = .ref a → SqL K H4 a vs → LayL K H4 ds vs [] → (pickL ds l' u' k).length ≤ sizeLine → allPure (pickL ds l' u' k) = true → Wn (LayX K σ) K W σ H4 (Own Af4) (.ok (.val (.ml (pickL ds l' u' k))) s4) Q →
          ∃ (a : Addr) (xs : List V) (k1 : Int), v = .ref a ∧ some k = some k1 ∧ k1 ≠ 0 ∧ SqL K H4 a xs ∧ (pickL xs l' u' k1).length ≤ sizeLine ∧ ∀ p, H4 p = none → Q (.ref p) (upd H4 p (.lst (pickL xs l' u' k1))) := fun {ds vs a} ev hs hl hz hp h => by
        have lp := pick_lay (lo := l') (hi := u') (k := k) hl
        exact ⟨a, vs, k, ev, rfl, hk, hs, by rw [LayL.len lp]; exact hz, fun p hp' => (Wn.fn r4 h).2.1 _ _ p rfl hp' lp⟩
      unfold stD at h
      cases d with
      | lst ds =>
        dsimp only at h
        split at h
        · rename_i c
          obtain ⟨_, a, vs, e, h1, h2⟩ := lay
          exact fin e h1.sq h2 c.1 c.2 h
        · exact h.elim
      | kl ds =>
        dsimp only at h
        split at h
        · rename_i c
          obtain ⟨_, a, vs, e, h1, h2⟩ := lay
          exact fin e h1.sq h2 c.1 c.2 h
        · exact h.elim
      | ml ds =>
        dsimp only at h
        split at h
        · rename_i c
          obtain ⟨a, vs, B, e, h1, h2, h3⟩ := lay
          have z := layL_pure c.1 h2
          subst z
          exact fin e (SqL.of h1) h2 c.2.1 c.2.2 h
        · exact h.elim
      | _ => exact h.elim
  · exact h.elim
end
end Dn

set_option Elab.async false
set_option linter.all false
set_option maxRecDepth 100000
set_option maxHeartbeats 2000000
/-! Dn2v: views: an expression that only reads, evaluated with all slots as views. -/
namespace Dn
open PySem L2

mutual
def D.view : D → D
  | .ml ds => .kl (viewL ds)
  | .ins c ns ds => .vi c ns (viewL ds)
  | .non => .non
  | .bl b => .bl b
  | .int i => .int i
  | .str s => .str s
  | .tup ds => .tup ds
  | .lst ds => .lst ds
  | .kl ds => .kl ds
  | .exo a dx c ns ds => .exo a dx c ns ds
  | .vi c ns ds => .vi c ns ds
  | .mt ds => .tup (viewL ds)
  | .rf a => .rf a
def viewL : List D → List D
  | [] => []
  | d :: ds => d.view :: viewL ds
end
mutual
/-- no view in it -/
def D.clo : D → Bool
  | .kl _ => false
  | .vi _ _ _ => false
  | .tup ds => cloL ds
  | .lst ds => cloL ds
  | .ml ds => cloL ds
  | .ins _ _ ds => cloL ds
  | .exo _ _ _ _ ds => cloL ds
  | .non => true
  | .bl _ => true
  | .int _ => true
  | .str _ => true
  | .mt ds => cloL ds
  | .rf _ => true
def cloL : List D → Bool
  | [] => true
  | d :: ds => d.clo && cloL ds
end
def viewO (o : Option D) : Option D := match o with
  | some d => some d.view
  | none => none
def viewS (ss : Sl) : Sl := ss.map viewO
abbrev ZS.add (Z : ZS) (F : Addr → Prop) : ZS := ⟨fun a => Z.z a ∨ F a⟩

section
variable {K : PySem.W.Frag} {H H' : Hp}
theorem klL_up {Z Z' : ZS} (h : ∀ a, Z.z a → Z'.z a) {a : Addr} {vs : List V} (l : @KlL Z K H a vs) : @KlL Z' K H a vs := by
  rcases l with (l | l) | l
  · exact .inl (.inl l)
  · exact .inl (.inr ⟨h a l.1, l.2⟩)
  · exact .inr l
mutual
theorem lay_up {Z Z' : ZS} (h : ∀ a, Z.z a → Z'.z a) : ∀ (d : D) (v : V) (A : List Addr), @Lay Z K H d v A → @Lay Z' K H d v A
  | .non, _, _, l => l
  | .bl _, _, _, l => l
  | .int _, _, _, l => l
  | .str _, _, _, l => l
  | .tup ds, v, A, l => by
    obtain ⟨e, a, vs, e1, h1, h2⟩ := l
    exact ⟨e, a, vs, e1, h1, layL_up h ds vs [] h2⟩
  | .lst ds, v, A, l => by
    obtain ⟨e, a, vs, e1, h1, h2⟩ := l
    exact ⟨e, a, vs, e1, h1, layL_up h ds vs [] h2⟩
  | .kl ds, v, A, l => by
    obtain ⟨e, a, vs, e1, h1, h2⟩ := l
    exact ⟨e, a, vs, e1, klL_up h h1, layL_up h ds vs [] h2⟩
  | .ml ds, v, A, l => by
    obtain ⟨a, vs, B, e1, h1, h2, e2⟩ := l
    exact ⟨a, vs, B, e1, h1, layL_up h ds vs B h2, e2⟩
  | .exo a dx c ns ds, v, A, l => by
    obtain ⟨e, e1, vs, h1, hl, h2⟩ := l
    exact ⟨e, e1, vs, h1, hl, layL_up h ds vs [] h2⟩
  | .ins c ns ds, v, A, l => by
    obtain ⟨a, dx, vs, B, e1, h1, hl, h2, e2⟩ := l
    exact ⟨a, dx, vs, B, e1, h1, hl, layL_up h ds vs B h2, e2⟩
  | .vi c ns ds, v, A, l => by
    obtain ⟨e, a, dx, vs, e1, hz, h1, hl, h2⟩ := l
    exact ⟨e, a, dx, vs, e1, h a hz, h1, hl, layL_up h ds vs [] h2⟩
  | .mt ds, v, A, l => by
    obtain ⟨a, vs, e1, h1, h2⟩ := l
    exact ⟨a, vs, e1, h1, layL_up h ds vs A h2⟩
  | .rf _, _, _, l => l
theorem layL_up {Z Z' : ZS} (h : ∀ a, Z.z a → Z'.z a) : ∀ (ds : List D) (vs : List V) (A : List Addr), @LayL Z K H ds vs A → @LayL Z' K H ds vs A
  | [], _, _, l => l
  | d :: ds, vs, A, l => by
    obtain ⟨v, ws, A1, A2, e1, e2, h1, h2⟩ := l
    exact ⟨v, ws, A1, A2, e1, e2, lay_up h d v A1 h1, layL_up h ds ws A2 h2⟩
end
mutual
theorem lay_clo {Z Z' : ZS} : ∀ (d : D) (v : V) (A : List Addr), d.clo = true → @Lay Z K H d v A → @Lay Z' K H d v A
  | .non, _, _, _, l => l
  | .bl _, _, _, _, l => l
  | .int _, _, _, _, l => l
  | .str _, _, _, _, l => l
  | .tup ds, v, A, c, l => by
    unfold D.clo at c
    obtain ⟨e, a, vs, e1, h1, h2⟩ := l
    exact ⟨e, a, vs, e1, h1, layL_clo ds vs [] c h2⟩
  | .lst ds, v, A, c, l => by
    unfold D.clo at c
    obtain ⟨e, a, vs, e1, h1, h2⟩ := l
    exact ⟨e, a, vs, e1, h1, layL_clo ds vs [] c h2⟩
  | .kl ds, v, A, c, l => by unfold D.clo at c; cases c
  | .ml ds, v, A, c, l => by
    unfold D.clo at c
    obtain ⟨a, vs, B, e1, h1, h2, e2⟩ := l
    exact ⟨a, vs, B, e1, h1, layL_clo ds vs B c h2, e2⟩
  | .exo a dx x ns ds, v, A, c, l => by
    unfold D.clo at c
    obtain ⟨e, e1, vs, h1, hl, h2⟩ := l
    exact ⟨e, e1, vs, h1, hl, layL_clo ds vs [] c h2⟩
  | .ins x ns ds, v, A, c, l => by
    unfold D.clo at c
    obtain ⟨a, dx, vs, B, e1, h1, hl, h2, e2⟩ := l
    exact ⟨a, dx, vs, B, e1, h1, hl, layL_clo ds vs B c h2, e2⟩
  | .vi x ns ds, v, A, c, l => by unfold D.clo at c; cases c
  | .mt ds, v, A, c, l => by
    unfold D.clo at c
    obtain ⟨a, vs, e1, h1, h2⟩ := l
    exact ⟨a, vs, e1, h1, layL_clo ds vs A c h2⟩
  | .rf _, _, _, _, l => l
theorem layL_clo {Z Z' : ZS} : ∀ (ds : List D) (vs : List V) (A : List Addr), cloL ds = true → @LayL Z K H ds vs A → @LayL Z' K H ds vs A
  | [], _, _, _, l => l
  | d :: ds, vs, A, c, l => by
    unfold cloL at c
    obtain ⟨c1, c2⟩ := Bool.and_eq_true_iff.mp c
    obtain ⟨v, ws, A1, A2, e1, e2, h1, h2⟩ := l
    exact ⟨v, ws, A1, A2, e1, e2, lay_clo d v A1 c1 h1, layL_clo ds ws A2 c2 h2⟩
end
mutual
theorem lay_view {Z : ZS} : ∀ (d : D) (v : V) (A : List Addr), @Lay Z K H d v A → (∀ a ∈ A, Z.z a) → @Lay Z K H d.view v []
  | .non, _, _, l, _ => ⟨l.1, rfl⟩
  | .bl _, _, _, l, _ => ⟨l.1, rfl⟩
  | .int _, _, _, l, _ => ⟨l.1, rfl⟩
  | .str _, _, _, l, _ => ⟨l.1, rfl⟩
  | .tup ds, v, A, l, _ => by unfold D.view; exact ⟨rfl, l.2⟩
  | .lst ds, v, A, l, _ => by unfold D.view; exact ⟨rfl, l.2⟩
  | .kl ds, v, A, l, _ => by unfold D.view; exact ⟨rfl, l.2⟩
  | .ml ds, v, A, l, z => by
    obtain ⟨a, vs, B, e1, h1, h2, e2⟩ := l
    subst e2
    unfold D.view
    exact ⟨rfl, a, vs, e1, .inl (.inr ⟨z a List.mem_cons_self, h1⟩), layL_view ds vs B h2 fun b hb => z b (List.mem_cons_of_mem _ hb)⟩
  | .exo a dx c ns ds, v, A, l, _ => by unfold D.view; exact ⟨rfl, l.2⟩
  | .ins c ns ds, v, A, l, z => by
    obtain ⟨a, dx, vs, B, e1, h1, hl, h2, e2⟩ := l
    subst e2
    unfold D.view
    have hv : ∀ ds : List D, (viewL ds).length = ds.length := fun ds => by
      induction ds with
      | nil => rfl
      | cons d ds ih => unfold viewL; simp [ih]
    exact ⟨rfl, a, dx, vs, e1, z a List.mem_cons_self, h1, by rw [hv]; exact hl, layL_view ds vs B h2 fun b hb => z b (List.mem_cons_of_mem _ hb)⟩
  | .vi c ns ds, v, A, l, _ => by unfold D.view; exact ⟨rfl, l.2⟩
  | .mt ds, v, A, l, z => by
    obtain ⟨a, vs, e1, h1, h2⟩ := l
    unfold D.view
    exact ⟨rfl, a, vs, e1, h1, layL_view ds vs A h2 z⟩
  | .rf _, _, _, l, _ => by unfold D.view; exact ⟨l.1, rfl⟩
theorem layL_view {Z : ZS} : ∀ (ds : List D) (vs : List V) (A : List Addr), @LayL Z K H ds vs A → (∀ a ∈ A, Z.z a) → @LayL Z K H (viewL ds) vs []
  | [], _, _, l, _ => ⟨l.1, rfl⟩
  | d :: ds, vs, A, l, z => by
    obtain ⟨v, ws, A1, A2, e1, e2, h1, h2⟩ := l
    subst e2
    unfold viewL
    exact ⟨v, ws, [], [], e1, rfl, lay_view d v A1 h1 fun b hb => z b (List.mem_append_left _ hb), layL_view ds ws A2 h2 fun b hb => z b (List.mem_append_right _ hb)⟩
end
theorem viewS_get {ss : Sl} {i : Nat} {d : D} (e : (viewS ss)[i]? = some (some d)) : ∃ d0, ss[i]? = some (some d0) ∧ d = d0.view := by
  unfold viewS at e
  rw [List.getElem?_map] at e
  cases q : ss[i]? with
  | none => rw [q] at e; cases e
  | some o =>
    rw [q] at e
    cases o with
    | none => cases e
    | some d0 => cases e; exact ⟨d0, rfl, rfl⟩
variable {ss : Sl} {σ : St} {Af : Nat → List Addr}
theorem own_nil {b : Addr} (h : Own (fun _ => []) b) : False := let ⟨_, z⟩ := h; nomatch z
theorem ro_rep {Z : ZS} (r : @Rep Z K H ss σ Af) : @Rep (Z.add (Own Af)) K H (viewS ss) σ (fun _ => []) := by
  refine @Rep.mk (Z.add (Own Af)) _ _ _ _ _ (by unfold viewS; rw [List.length_map]; exact @Rep.len Z _ _ _ _ _ r) (fun i d e => ?_) (fun _ _ => rfl) (fun _ => List.nodup_nil) (fun _ _ _ z => nomatch z) (fun b hb => (own_nil hb).elim) fun b hb => ?_
  · obtain ⟨d0, q1, q2⟩ := viewS_get e
    obtain ⟨v, h1, h2⟩ := @Rep.lay Z _ _ _ _ _ r i d0 q1
    subst q2
    exact ⟨v, h1, @lay_view _ _ (Z.add (Own Af)) d0 v _ (lay_up (Z' := Z.add (Own Af)) (fun a z => .inl z) d0 v _ h2) fun a ha => .inr ⟨i, ha⟩⟩
  · rcases hb with hb | hb
    · exact @Rep.zl Z _ _ _ _ _ r b hb
    · obtain ⟨o, e, _⟩ := @Rep.there Z _ _ _ _ _ r b hb
      rw [e]; exact fun z => nomatch z
/-- a step among views: nothing that stands changes -/
theorem ro_stp {Z : ZS} {F1 G : Addr → Prop} (r : @Rep Z K H ss σ Af) (st : @Stp (Z.add (Own Af)) H (Own fun _ => []) H' F1) (g : ∀ b, G b → F1 b) : @Rep Z K H' ss σ Af ∧ @Stp Z H (Own Af) H' (fun b => Own Af b ∨ G b) ∧ ∀ b, F1 b → H b = none := by
  have all : ∀ b o, H b = some o → H' b = some o := fun b o e => @Stp.keep (Z.add (Own Af)) _ _ _ _ st b o own_nil e
  have fr : ∀ b, F1 b → H b = none := fun b f => (@Stp.new (Z.add (Own Af)) _ _ _ _ st b f).elim (fun z => (own_nil z).elim) id
  have s1 : @Stp Z H (Own Af) H' (fun b => Own Af b ∨ G b) := @Stp.mk Z _ _ _ _ (@Kp.mk Z _ _ (fun b xs e => all _ _ e) (fun b o u e => all _ _ e) (fun b fs e => all _ _ e) fun b _ o e => all _ _ e) (fun b o _ e => all _ _ e) fun b hb => hb.elim .inl fun z => .inr (fr b (g b z))
  have s2 : @Stp Z H (fun _ => False) H' (fun _ => False) := @Stp.mk Z _ _ _ _ (@Stp.kp Z _ _ _ _ s1) (fun b o _ e => all _ _ e) fun b hb => hb.elim
  exact ⟨@Rep.step Z _ _ _ _ _ _ _ _ r s2 fun _ _ z => z, s1, fr⟩
end

/-- f with all slots as views -/
def dRO (f : EV) : EV := fun ss => match f (viewS ss) with
  | .ok (.val d) _ => if d.clo = true then .ok (.val d) ss else .err
  | .ok (.plc i) _ => .ok (.plc i) ss
  | .exc e _ => if cloL e.ds = true then .exc e ss else .err
  | .err => .err
def dROT (f : TV) : TV := fun ss => match f (viewS ss) with
  | .ok b _ => .ok b ss
  | .exc e _ => if cloL e.ds = true then .exc e ss else .err
  | .err => .err
section
variable {K : PySem.W.Frag} {W : WX} {σ : St} {H : Hp}
theorem exl_clo {Z Z' : ZS} {e : Ex} {cls : Value} {d : Option Addr} (c : cloL e.ds = true) (x : @ExL Z K H e cls d) : @ExL Z' K H e cls d := by
  obtain ⟨x1, x2⟩ := x
  refine ⟨x1, x2.imp id ?_⟩
  rintro ⟨a, vs, e1, e2, e3, l⟩
  exact ⟨a, vs, e1, e2, e3, layL_clo e.ds vs [] c l⟩
theorem s_ro {Z : ZS} {f : EV} {Q : VK} (h : @tE Z K W (dRO f) σ H Q) : ∃ Z' : ZS, @tE Z' K W f σ H Q := by
  obtain ⟨ss, Af, r, h⟩ := h
  refine ⟨Z.add (Own Af), viewS ss, fun _ => [], ro_rep r, ?_⟩
  unfold dRO at h
  cases e : f (viewS ss) with
  | err => rw [e] at h; exact h
  | exc x s1 =>
    rw [e] at h
    dsimp only at h
    split at h
    · rename_i c
      rintro cls d H1 ⟨Af1, r1, x1, st1⟩
      obtain ⟨q1, q2, q3⟩ := ro_stp (G := fun _ => False) r st1 fun _ z => z.elim
      exact h cls d H1 ⟨Af, q1, exl_clo c x1, q2.sub fun b hb => .inl hb⟩
    · exact h.elim
  | ok x s1 =>
    rw [e] at h
    rintro v H1 ⟨Af1, B1, r1, l1, n1, d1, st1⟩
    obtain ⟨q1, q2, q3⟩ := ro_stp (G := fun b => b ∈ B1) r st1 fun _ z => .inr z
    cases x with
    | plc i =>
      obtain ⟨l1, l2⟩ := l1
      subst l1
      exact h v H1 ⟨Af, [], q1, ⟨rfl, l2⟩, List.nodup_nil, fun a z => (nomatch z), q2⟩
    | val d =>
      dsimp only at h
      split at h
      · rename_i c
        refine h v H1 ⟨Af, B1, q1, lay_clo d v B1 c l1, n1, fun a ha z => ?_, q2⟩
        obtain ⟨o, eo, _⟩ := @Rep.there Z _ _ _ _ _ r a z
        have := q3 a (.inr ha)
        rw [eo] at this
        cases this
      · exact h.elim
theorem s_roT {Z : ZS} {f : TV} {Q : Bool → Hp → Prop} (h : @tT Z K W (dROT f) σ H Q) : ∃ Z' : ZS, @tT Z' K W f σ H Q := by
  obtain ⟨ss, Af, r, h⟩ := h
  refine ⟨Z.add (Own Af), viewS ss, fun _ => [], ro_rep r, ?_⟩
  unfold dROT at h
  cases e : f (viewS ss) with
  | err => rw [e] at h; exact h
  | exc x s1 =>
    rw [e] at h
    dsimp only at h
    split at h
    · rename_i c
      rintro cls d H1 ⟨Af1, r1, x1, st1⟩
      obtain ⟨q1, q2, q3⟩ := ro_stp (G := fun _ => False) r st1 fun _ z => z.elim
      exact h cls d H1 ⟨Af, q1, exl_clo c x1, q2.sub fun b hb => .inl hb⟩
    · exact h.elim
  | ok x s1 =>
    rw [e] at h
    rintro v H1 ⟨Af1, B1, r1, ⟨l1, l2⟩, n1, d1, st1⟩
    subst l2
    obtain ⟨q1, q2, q3⟩ := ro_stp (G := fun b => b ∈ ([] : List Addr)) r st1 fun _ z => nomatch z
    exact h v H1 ⟨Af, [], q1, ⟨l1, rfl⟩, List.nodup_nil, fun a z => (nomatch z), q2⟩
end
end Dn

set_option Elab.async false
set_option linter.all false
set_option maxRecDepth 100000
set_option maxHeartbeats 4000000
/-! Dn6i: instances: fields read in views; lists in fields; methods, making. -/
namespace Dn
open PySem L2
variable [ZS]

section
variable {K : PySem.W.Frag} {H H' : Hp} {ss : Sl} {σ : St} {Af : Nat → List Addr}
/-- what a slot owns is written -/
theorem Rep.write {j : Nat} {d' : D} {v : V} {A' : List Addr} (r : Rep K H ss σ Af) (hj : j < ss.length) (hv : σ[j]? = some (some v)) (s : Stp H (fun b => b ∈ Af j) H' (fun b => b ∈ A')) (l : Lay K H' d' v A') (nd : A'.Nodup) :
    Rep K H' (ss.set j (some d')) σ (put Af j A') ∧ Stp H (Own Af) H' (Own (put Af j A')) := by
  have hj2 : j < σ.length := r.len ▸ hj
  have out : ∀ {i : Nat} {a : Addr}, i ≠ j → a ∈ Af i → a ∉ Af j := fun {i a} n h1 h2 => n (r.dis i j a h1 h2)
  have disA : ∀ {i : Nat} {a : Addr}, i ≠ j → a ∈ Af i → a ∉ A' := fun {i a} n h1 h2 => by
    obtain ⟨o, e, _⟩ := r.there ⟨i, h1⟩
    exact s.out (out n h1) e h2
  refine ⟨⟨by rw [List.length_set]; exact r.len, fun i d e => ?_, fun i e => ?_, fun i => ?_, fun i k a h1 h2 => ?_, fun b hb z => (own_put hb).elim (fun y => r.nz b y z) (fun y => (s.new b y).elim (fun y => r.nz b ⟨j, y⟩ z) (r.zl b z)), r.zlK s.kp⟩, ⟨s.kp, fun b o nf e => s.keep b o (fun z => nf ⟨j, z⟩) e, fun b hb => ?_⟩⟩
  · by_cases z : i = j
    · subst z
      rw [List.getElem?_set_self hj] at e
      cases e
      exact ⟨v, hv, by rw [put_self]; exact l⟩
    · rw [List.getElem?_set_ne (Ne.symm z)] at e
      obtain ⟨w, h1, h2⟩ := r.lay i d e
      exact ⟨w, h1, by rw [put_ne z]; exact s.lay h2 fun a ha => out z ha⟩
  · by_cases z : i = j
    · subst z
      exact absurd (List.getElem?_set_self hj) (e d')
    · rw [put_ne z]
      exact r.emp i fun d q => e d (by rw [List.getElem?_set_ne (Ne.symm z)]; exact q)
  · by_cases z : i = j
    · subst z; rw [put_self]; exact nd
    · rw [put_ne z]; exact r.nd i
  · by_cases z1 : i = j
    · by_cases z2 : k = j
      · rw [z1, z2]
      · subst z1
        rw [put_self] at h1; rw [put_ne z2] at h2
        exact absurd h1 (disA z2 h2)
    · by_cases z2 : k = j
      · subst z2
        rw [put_self] at h2; rw [put_ne z1] at h1
        exact absurd h2 (disA z1 h1)
      · rw [put_ne z1] at h1; rw [put_ne z2] at h2
        exact r.dis i k a h1 h2
  · obtain ⟨i, hi⟩ := hb
    by_cases z : i = j
    · subst z; rw [put_self] at hi
      exact (s.new b hi).elim (fun q => .inl ⟨_, q⟩) .inr
    · rw [put_ne z] at hi; exact .inl ⟨i, hi⟩
end

section
variable {K : PySem.W.Frag} {H H' : Hp} {ss : Sl} {σ : St} {Af : Nat → List Addr}
theorem LayL.at : ∀ {ds : List D} {vs : List V} {B : List Addr} {i : Nat} {d : D}, LayL K H ds vs B → ds[i]? = some d → ∃ v B1 C B2, vs[i]? = some v ∧ B = B1 ++ (C ++ B2) ∧ Lay K H d v C ∧
    ∀ (H' : Hp) (d' : D) (v' : V) (C' : List Addr), Kp H H' → (∀ a, a ∈ B1 ∨ a ∈ B2 → ∀ o, H a = some o → H' a = some o) → Lay K H' d' v' C' → LayL K H' (ds.set i d') (vs.set i v') (B1 ++ (C' ++ B2))
  | [], _, _, _, _, _, e => by simp at e
  | d0 :: ds, vs, B, 0, d, l, e => by
    obtain ⟨v, ws, A1, A2, e1, e2, l1, l2⟩ := l
    subst e1; subst e2
    simp at e; subst e
    exact ⟨v, [], A1, A2, rfl, rfl, l1, fun H' d' v' C' k hs l' => ⟨v', ws, C', A2, rfl, rfl, l', LayL.step k ds ws A2 (fun a ha => hs a (.inr ha)) l2⟩⟩
  | d0 :: ds, vs, B, i + 1, d, l, e => by
    obtain ⟨v, ws, A1, A2, e1, e2, l1, l2⟩ := l
    subst e1; subst e2
    obtain ⟨u, B1, C, B2, q1, q2, q3, q4⟩ := LayL.at (i := i) (d := d) l2 (by simpa using e)
    subst q2
    refine ⟨u, A1 ++ B1, C, B2, by simpa using q1, by simp, q3, fun H' d' v' C' k hs l' => ?_⟩
    exact ⟨v, ws.set i v', A1, B1 ++ (C' ++ B2), rfl, by simp, Lay.step k d0 v A1 (fun a ha => hs a (.inl (List.mem_append_left _ ha))) l1, q4 H' d' v' C' k (fun a ha => hs a (ha.imp (List.mem_append_right _) id)) l'⟩

/-! ### names of fields -/
def fIx (f : Str) : List Str → Option Nat
  | [] => none
  | n :: ns => if n = f then some 0 else (fIx f ns).map (· + 1)
theorem fIx_get {f : Str} : ∀ {ns : List Str} {vs : List V} {j : Nat} {v : V}, fIx f ns = some j → ns.length = vs.length → vs[j]? = some v → (ns.zip vs).lookup f = some v
  | [], vs, j, v, h, _, _ => by cases h
  | n :: ns, [], j, v, h, hl, e => by simp at e
  | n :: ns, u :: vs, j, v, h, hl, e => by
    unfold fIx at h
    rw [List.zip_cons_cons, List.lookup_cons]
    by_cases c : n = f
    · rw [if_pos c] at h
      cases h
      subst c
      simp at e
      subst e
      simp
    · rw [if_neg c] at h
      have c' : (f == n) = false := by simpa using fun z => c z.symm
      rw [c']
      cases q : fIx f ns with
      | none => rw [q] at h; cases h
      | some i =>
        rw [q] at h; cases h
        exact fIx_get q (by simpa using hl) (by simpa using e)
theorem fIx_put {f : Str} {v : V} : ∀ {ns : List Str} {vs : List V} {j : Nat}, fIx f ns = some j → ns.length = vs.length → putF f v (ns.zip vs) = ns.zip (vs.set j v)
  | [], vs, j, h, _ => by cases h
  | n :: ns, [], j, h, hl => by cases hl
  | n :: ns, u :: vs, j, h, hl => by
    unfold fIx at h
    rw [List.zip_cons_cons]
    unfold putF
    by_cases c : n = f
    · rw [if_pos c] at h
      cases h
      rw [if_pos c]
      rfl
    · rw [if_neg c] at h
      rw [if_neg c]
      cases q : fIx f ns with
      | none => rw [q] at h; cases h
      | some i =>
        rw [q] at h; cases h
        rw [fIx_put q (by simpa using hl)]
        rfl
theorem fIx_new {f : Str} {v : V} : ∀ {ns : List Str} {vs : List V}, fIx f ns = none → ns.length = vs.length → putF f v (ns.zip vs) = (ns ++ [f]).zip (vs ++ [v])
  | [], [], _, _ => rfl
  | [], u :: vs, _, hl => by cases hl
  | n :: ns, [], h, hl => by cases hl
  | n :: ns, u :: vs, h, hl => by
    unfold fIx at h
    rw [List.zip_cons_cons]
    unfold putF
    by_cases c : n = f
    · rw [if_pos c] at h; cases h
    · rw [if_neg c] at h
      rw [if_neg c]
      cases q : fIx f ns with
      | some i => rw [q] at h; cases h
      | none =>
        rw [fIx_new q (by simpa using hl)]
        rfl
theorem fIx_no {f : Str} : ∀ {ns : List Str} {vs : List V}, fIx f ns = none → (ns.zip vs).lookup f = none
  | [], vs, _ => rfl
  | n :: ns, [], h => rfl
  | n :: ns, u :: vs, h => by
    unfold fIx at h
    rw [List.zip_cons_cons, List.lookup_cons]
    by_cases c : n = f
    · rw [if_pos c] at h; cases h
    · rw [if_neg c] at h
      have c' : (f == n) = false := by simpa using fun z => c z.symm
      rw [c']
      cases q : fIx f ns with
      | some i => rw [q] at h; cases h
      | none => exact fIx_no q
theorem fIx_lt {f : Str} : ∀ {ns : List Str} {j : Nat}, fIx f ns = some j → j < ns.length
  | [], j, h => by cases h
  | n :: ns, j, h => by
    unfold fIx at h
    by_cases c : n = f
    · rw [if_pos c] at h; cases h; simp
    · rw [if_neg c] at h
      cases q : fIx f ns with
      | none => rw [q] at h; cases h
      | some i =>
        rw [q] at h; cases h
        have := fIx_lt q
        simpa using this

/-- what of the classes' fields is known -/
def FlOk (K : PySem.W.Frag) (fl : List (Str × Str)) : Prop := ∀ c f, (c, f) ∈ fl → Cls K (He.ga K c) ∧ NoAttr K (He.ga K c) f

/-! ### a field read -/
def fldX (fl : List (Str × Str)) (f : Str) (x : Vx) (ss : Sl) : R Vx := match x.get ss with
  | some (.vi c ns ds) => if (c, f) ∈ fl then match fIx f ns with
      | some j => match ds[j]? with
        | some d => if d.pure = true then .ok (.val d) ss else .err
        | none => .err
      | none => .err
    else .err
  | _ => .err
def dFld (fl : List (Str × Str)) (f : Str) (g : EV) : EV := fun ss => (g ss).bind (fldX fl f)
theorem s_fld {W : WX} {Q : VK} {fl : List (Str × Str)} {f : Str} {g : EV} (hfl : FlOk K fl) (h : tE K W (dFld fl f g) σ H Q) : tFld K (tE K W g) f σ H Q := by
  obtain ⟨ss, Af, rp, h⟩ := h
  refine bindW rp h fun x v H1 s1 Af1 B1 e1 r1 l1 n1 d1 st1 hw => ?_
  clear h
  unfold fldX at hw
  split at hw
  · rename_i c ns ds g1
    obtain ⟨A, l⟩ := l1.read r1 g1
    obtain ⟨_, a, dx, vs, e2, hz, hx, hl, ll⟩ := l
    split at hw
    · rename_i m
      obtain ⟨k1, k2⟩ := hfl c f m
      split at hw
      · rename_i j hj
        split at hw
        · rename_i d hd
          split at hw
          · rename_i p
            obtain ⟨u, q1, q2⟩ := ll.get0 hd
            exact ⟨a, _, dx, _, u, e2, hx, k1, k2, fIx_get hj (by rw [LayL.len ll]; exact hl) q1, Wn.done r1 hw q2⟩
          · exact hw.elim
        · exact hw.elim
      · exact hw.elim
    · exact hw.elim
  · exact hw.elim

/-! ### a field written -/
/-- what a slot owns is written; what is at hand goes into it -/
theorem Rep.put {j : Nat} {d' : D} {v : V} {A' B : List Addr} (r : Rep K H ss σ Af) (dB : ∀ a ∈ B, ¬ Own Af a) (zB : ∀ a ∈ B, ¬ ZS.z a) (hj : j < ss.length) (hv : σ[j]? = some (some v)) (s : Stp H (fun b => b ∈ Af j ∨ b ∈ B) H' (fun b => b ∈ A')) (l : Lay K H' d' v A') (nd : A'.Nodup) :
    Rep K H' (ss.set j (some d')) σ (put Af j A') ∧ Stp H (fun b => Own Af b ∨ b ∈ B) H' (Own (Dn.put Af j A')) := by
  have hj2 : j < σ.length := r.len ▸ hj
  have out : ∀ {i : Nat} {a : Addr}, i ≠ j → a ∈ Af i → ¬ (a ∈ Af j ∨ a ∈ B) := fun {i a} n h1 h2 => h2.elim (fun h2 => n (r.dis i j a h1 h2)) fun h2 => dB a h2 ⟨i, h1⟩
  have disA : ∀ {i : Nat} {a : Addr}, i ≠ j → a ∈ Af i → a ∉ A' := fun {i a} n h1 h2 => by
    obtain ⟨o, e, _⟩ := r.there ⟨i, h1⟩
    exact s.out (out n h1) e h2
  refine ⟨⟨by rw [List.length_set]; exact r.len, fun i d e => ?_, fun i e => ?_, fun i => ?_, fun i k a h1 h2 => ?_, fun b hb z => (own_put hb).elim (fun y => r.nz b y z) (fun y => (s.new b y).elim (fun y => y.elim (fun y => r.nz b ⟨j, y⟩ z) fun y => zB b y z) (r.zl b z)), r.zlK s.kp⟩, ⟨s.kp, fun b o nf e => s.keep b o (fun z => nf (z.imp (fun z => ⟨j, z⟩) id)) e, fun b hb => ?_⟩⟩
  · by_cases z : i = j
    · subst z
      rw [List.getElem?_set_self hj] at e
      cases e
      exact ⟨v, hv, by rw [put_self]; exact l⟩
    · rw [List.getElem?_set_ne (Ne.symm z)] at e
      obtain ⟨w, h1, h2⟩ := r.lay i d e
      exact ⟨w, h1, by rw [put_ne z]; exact s.lay h2 fun a ha => out z ha⟩
  · by_cases z : i = j
    · subst z
      exact absurd (List.getElem?_set_self hj) (e d')
    · rw [put_ne z]
      exact r.emp i fun d q => e d (by rw [List.getElem?_set_ne (Ne.symm z)]; exact q)
  · by_cases z : i = j
    · subst z; rw [put_self]; exact nd
    · rw [put_ne z]; exact r.nd i
  · by_cases z1 : i = j
    · by_cases z2 : k = j
      · rw [z1, z2]
      · subst z1
        rw [put_self] at h1; rw [put_ne z2] at h2
        exact absurd h1 (disA z2 h2)
    · by_cases z2 : k = j
      · subst z2
        rw [put_self] at h2; rw [put_ne z1] at h1
        exact absurd h2 (disA z1 h1)
      · rw [put_ne z1] at h1; rw [put_ne z2] at h2
        exact r.dis i k a h1 h2
  · obtain ⟨i, hi⟩ := hb
    by_cases z : i = j
    · subst z; rw [put_self] at hi
      exact (s.new b hi).elim (fun q => .inl (q.imp (fun q => ⟨_, q⟩) id)) .inr
    · rw [put_ne z] at hi; exact .inl (.inl ⟨i, hi⟩)

/-! ### a list in a field -/
def fldOf (fl : List (Str × Str)) (f : Str) (o : Option (Option D)) : Option (Nat × List D) := match o with
  | some (some (.ins c ns ds)) => if (c, f) ∈ fl then match fIx f ns with
      | some j => match ds[j]? with
        | some (.ml es) => some (j, es)
        | _ => none
      | none => none
    else none
  | _ => none
def setMl (j : Nat) (es : List D) (o : Option (Option D)) : Option D := match o with
  | some (some (.ins c ns ds)) => some (.ins c ns (ds.set j (.ml es)))
  | _ => none
theorem fldOf_spec {fl : List (Str × Str)} {f : Str} {o : Option (Option D)} {j : Nat} {es : List D} (h : fldOf fl f o = some (j, es)) : ∃ c ns ds, o = some (some (.ins c ns ds)) ∧ (c, f) ∈ fl ∧ fIx f ns = some j ∧ ds[j]? = some (.ml es) := by
  unfold fldOf at h
  split at h
  · split at h
    · rename_i m
      split at h
      · rename_i j' hj
        split at h
        · rename_i es' hd
          cases h
          exact ⟨_, _, _, rfl, m, hj, hd⟩
        · cases h
      · cases h
    · cases h
  · cases h
/-- where the list of a field stands, and that it may be written -/
theorem fw {i j : Nat} {f : Str} {fl : List (Str × Str)} {es : List D} (r : Rep K H ss σ Af) (h : fldOf fl f ss[i]? = some (j, es)) :
    ∃ a C dx fs l ws Bj, σ[i]? = some (some (.ref a)) ∧ H a = some (.ins C dx fs) ∧ (∃ c, (c, f) ∈ fl ∧ C = He.ga K c) ∧ fs.lookup f = some (.ref l) ∧ H l = some (.lst ws) ∧ LayL K H es ws Bj ∧ (l :: Bj).Nodup ∧
      ∀ (es' : List D) (ws' : List V), LayL K H es' ws' Bj → ∃ Af', Rep K (upd H l (.lst ws')) (ss.set i (setMl j es' ss[i]?)) σ Af' ∧ Stp H (Own Af) (upd H l (.lst ws')) (Own Af') := by
  obtain ⟨c, ns, ds, e, m, hj, hd⟩ := fldOf_spec h
  obtain ⟨v, hv, a, dx, vs, B, e2, ha, hl, ll, eA⟩ := r.lay i _ e
  subst e2
  have hi : i < ss.length := (List.getElem?_eq_some_iff.mp e).1
  have hlv : ns.length = vs.length := by rw [LayL.len ll]; exact hl
  obtain ⟨u, C1, C, C2, z1, z2, z3, z4⟩ := LayL.at (i := j) ll hd
  subst z2
  obtain ⟨l, ws, Bj, e3, hll, le, eC⟩ := z3
  subst e3; subst eC
  have nd0 : (a :: (C1 ++ ((l :: Bj) ++ C2))).Nodup := by rw [← eA]; exact r.nd i
  obtain ⟨aB, nB⟩ := List.nodup_cons.mp nd0
  obtain ⟨p1, p2, p3⟩ := List.nodup_append.mp nB
  obtain ⟨p4, p5, p6⟩ := List.nodup_append.mp p2
  have lB : l ∉ Bj := (List.nodup_cons.mp p4).1
  refine ⟨a, _, dx, _, l, ws, Bj, hv, ha, ⟨c, m, rfl⟩, fIx_get hj hlv z1, hll, le, p4, fun es' ws' le' => ?_⟩
  have lin : l ∈ Af i := by rw [eA]; exact List.mem_cons_of_mem _ (List.mem_append_right _ (List.mem_append_left _ List.mem_cons_self))
  have st : Stp H (fun b => b ∈ Af i) (upd H l (.lst ws')) (fun b => b ∈ Af i) := Stp.wrote lin hll (.inl ⟨_, rfl⟩) (r.nz l ⟨i, lin⟩)
  have al : a ≠ l := fun z => aB (by rw [z]; exact List.mem_append_right _ (List.mem_append_left _ List.mem_cons_self))
  have lay : Lay K (upd H l (.lst ws')) (.ins c ns (ds.set j (.ml es'))) (.ref a) (Af i) := by
    refine ⟨a, dx, vs, C1 ++ ((l :: Bj) ++ C2), rfl, by rw [upd_ne al]; exact ha, by rw [List.length_set]; exact hl, ?_, eA⟩
    have q := z4 (upd H l (.lst ws')) (.ml es') (.ref l) (l :: Bj) st.kp (fun b hb o q => ?_) ⟨l, ws', Bj, rfl, upd_same, LayL.step st.kp es' ws' Bj (fun b hb o q => by rw [upd_ne (fun z => lB (by rw [← z]; exact hb))]; exact q) le', rfl⟩
    · have hjv : j < vs.length := (List.getElem?_eq_some_iff.mp z1).1
      have e5 : vs.set j (.ref l) = vs := by
        have : vs[j] = .ref l := (List.getElem?_eq_some_iff.mp z1).2
        rw [← this, List.set_getElem_self]
      rw [e5] at q
      exact q
    · have bl : b ≠ l := fun z => by
        rcases hb with hb | hb
        · exact p3 b hb l (List.mem_append_left _ List.mem_cons_self) z
        · exact p6 l List.mem_cons_self b hb z.symm
      rw [upd_ne bl]; exact q
  have es : setMl j es' ss[i]? = some (.ins c ns (ds.set j (.ml es'))) := by rw [e]; rfl
  rw [es]
  obtain ⟨q1, q2⟩ := r.write (j := i) hi hv st lay (r.nd i)
  exact ⟨_, q1, q2⟩
/-- the argument is evaluated among views: the list stays -/
def dAppF (fl : List (Str × Str)) (i : Nat) (f : Str) (g : EV) : EV := fun ss => match fldOf fl f ss[i]? with
  | some (j, es) => match foldA [g] (viewS ss) with
    | .ok [.val d] _ => if d.pure = true ∧ d.clo = true ∧ es.length < sizeLine then .ok (.val .non) (ss.set i (setMl j (es ++ [d]) ss[i]?)) else .err
    | .exc e _ => if cloL e.ds = true then .exc e ss else .err
    | _ => .err
  | none => .err
theorem s_appF {Z : ZS} {W : WX} {Q : VK} {fl : List (Str × Str)} {i : Nat} {f : Str} {g : EV} (hfl : FlOk K fl) (h : @tE Z K W (dAppF fl i f g) σ H Q) : ∃ Z' : ZS, tBM K "list" rAppend (tFld K (tVar i) f) (@tA Z' K W (foldA [g])) σ H Q := by
  obtain ⟨ss, Af, rp, h⟩ := h
  unfold dAppF at h
  split at h
  rotate_left
  · exact h.elim
  rename_i j es c
  obtain ⟨a, C, dx, fs, l, ws, Bj, q1, q2, ⟨cn, q3, q4⟩, q5, q6, q7, q8, _⟩ := @fw Z _ _ _ _ _ _ _ _ _ _ rp c
  subst q4
  obtain ⟨k1, k2⟩ := hfl _ _ q3
  refine ⟨Z.add (Own Af), .ref a, q1, a, _, dx, fs, .ref l, rfl, q2, k1, k2, q5, .inl ⟨rfl, ws, SqL.of q6⟩, viewS ss, fun _ => [], ro_rep rp, ?_⟩
  cases e : foldA [g] (viewS ss) with
  | err => rw [e] at h; exact h
  | exc x s1 =>
    rw [e] at h
    dsimp only at h
    split at h
    · rename_i c
      rintro cls d H1 ⟨Af1, r1, x1, st1⟩
      obtain ⟨z1, z2, z3⟩ := ro_stp (G := fun _ => False) rp st1 fun _ z => z.elim
      exact h cls d H1 ⟨Af, z1, exl_clo c x1, @Stp.sub Z _ _ _ _ _ z2 fun b hb => .inl hb⟩
    · exact h.elim
  | ok xs s1 =>
    rw [e] at h
    rintro us H1 ⟨Af1, B1, r1, l1, n1, d1, st1⟩
    split at h
    rotate_left
    · rename_i z; cases z
    · exact h.elim
    rename_i d s2 ee
    cases ee
    split at h
    rotate_left
    · exact h.elim
    rename_i p
    obtain ⟨p1, p2, p3⟩ := p
    obtain ⟨z1, z2, z3⟩ := ro_stp (G := fun _ => False) rp st1 fun _ z => z.elim
    have all : ∀ b o, H b = some o → H1 b = some o := fun b o e => @Stp.keep (Z.add (Own Af)) _ _ _ _ st1 b o own_nil e
    obtain ⟨w, vs, C1, C2, t1, t2, t3, t4⟩ := l1
    obtain ⟨t5, t6⟩ := t4
    subst t5; subst t1
    have t3 : @Lay Z K H1 d w C1 := lay_clo d w C1 p2 t3
    have t7 := @Lay.emp Z _ _ _ _ _ t3 p1
    subst t7
    obtain ⟨a', C', dx', fs', l', ws', Bj', y1, y2, ⟨cn', y3, y4⟩, y5, y6, y7, y8, y9⟩ := @fw Z _ _ _ _ _ _ _ _ _ _ z1 c
    rw [q1] at y1; cases y1
    rw [all _ _ q2] at y2; cases y2
    rw [q5] at y5; cases y5
    have y7' := LayL.append y7 (LayL.cons0 t3 LayL.nil)
    rw [List.append_nil] at y7'
    obtain ⟨Af', x1, x2⟩ := y9 (es ++ [d]) (ws' ++ [w]) y7'
    refine ⟨l, ws', w, rfl, rfl, y6, by rw [LayL.len y7]; exact p3, ?_⟩
    refine h _ _ ⟨Af', [], x1, ⟨rfl, rfl⟩, List.nodup_nil, fun a ha => (nomatch ha), ?_⟩
    have st := @Stp.trans Z _ _ _ _ _ _ _ z2 x2 fun b hb => .inl hb
    exact @Stp.sub Z _ _ _ _ _ st fun b hb => hb.elim id fun z => nomatch z
/-- xs.pop(), xs a slot; o.f.pop() -/
def popD (es : List D) : Option (D × List D) := if allPure es = true then match es[es.length - 1]? with
    | some d => some (d, es.dropLast)
    | none => none
  else none
def dPop (i : Nat) : EV := fun ss => match ss[i]? with
  | some (some (.ml es)) => match popD es with
    | some (d, es') => .ok (.val d) (ss.set i (some (.ml es')))
    | none => .err
  | _ => .err
def dPopF (fl : List (Str × Str)) (i : Nat) (f : Str) : EV := fun ss => match fldOf fl f ss[i]? with
  | some (j, es) => match popD es with
    | some (d, es') => .ok (.val d) (ss.set i (setMl j es' ss[i]?))
    | none => .err
  | none => .err
theorem LayL.dropLast0 : ∀ {ds : List D} {vs : List V}, LayL K H ds vs [] → LayL K H ds.dropLast vs.dropLast []
  | ds, vs, l => by
    rw [List.dropLast_eq_take, List.dropLast_eq_take, LayL.len l]
    exact LayL.take0 _ l
theorem pop_lay {es es' : List D} {d : D} {ws : List V} {B : List Addr} (e : popD es = some (d, es')) (l : LayL K H es ws B) : B = [] ∧ ∃ v, ws[ws.length - 1]? = some v ∧ Lay K H d v [] ∧ LayL K H es' ws.dropLast [] := by
  unfold popD at e
  split at e
  · rename_i p
    have z := layL_pure p l
    subst z
    split at e
    · rename_i d' hd
      cases e
      rw [← LayL.len l] at hd
      obtain ⟨v, q1, q2⟩ := l.get0 hd
      exact ⟨rfl, v, q1, q2, LayL.dropLast0 l⟩
    · cases e
  · cases e
theorem s_popF {W : WX} {Q : VK} {fl : List (Str × Str)} {i : Nat} {f : Str} (hfl : FlOk K fl) (h : tE K W (dPopF fl i f) σ H Q) : tBM0 K "list" rPop (tFld K (tVar i) f) σ H Q := by
  obtain ⟨ss, Af, rp, h⟩ := h
  unfold dPopF at h
  split at h
  rotate_left
  · exact h.elim
  rename_i j es c
  split at h
  rotate_left
  · exact h.elim
  rename_i d es' e
  obtain ⟨a, C, dx, fs, l, ws, Bj, q1, q2, ⟨cn, q3, q4⟩, q5, q6, q7, q8, q9⟩ := fw rp c
  subst q4
  obtain ⟨k1, k2⟩ := hfl _ _ q3
  obtain ⟨z, v, p1, p2, p3⟩ := pop_lay e q7
  subst z
  obtain ⟨Af', x1, x2⟩ := q9 _ _ p3
  refine ⟨.ref a, q1, a, _, dx, fs, .ref l, rfl, q2, k1, k2, q5, .inl ⟨rfl, ws, SqL.of q6⟩, l, ws, v, rfl, rfl, q6, p1, ?_⟩
  exact h _ _ ⟨Af', [], x1, Lay.keep x2.kp p2, List.nodup_nil, fun a ha => (nomatch ha), x2.sub fun b hb => hb.elim id fun z => nomatch z⟩
theorem s_pop {W : WX} {Q : VK} {i : Nat} (h : tE K W (dPop i) σ H Q) : tBM0 K "list" rPop (tVar i) σ H Q := by
  obtain ⟨ss, Af, rp, h⟩ := h
  unfold dPop at h
  split at h
  rotate_left
  · exact h.elim
  rename_i es c
  split at h
  rotate_left
  · exact h.elim
  rename_i d es' e
  obtain ⟨v, h1, l, ws, B, e1, h2, h3, h4⟩ := rp.lay i _ c
  subst e1
  obtain ⟨z, u, p1, p2, p3⟩ := pop_lay e h3
  subst z
  have hi : i < ss.length := (List.getElem?_eq_some_iff.mp c).1
  have lin : l ∈ Af i := by rw [h4]; exact List.mem_cons_self
  have st : Stp H (fun b => b ∈ Af i) (upd H l (.lst ws.dropLast)) (fun b => b ∈ Af i) := Stp.wrote lin h2 (.inl ⟨_, rfl⟩) (rp.nz l ⟨i, lin⟩)
  have lay : Lay K (upd H l (.lst ws.dropLast)) (.ml es') (.ref l) (Af i) := ⟨l, _, [], rfl, upd_same, LayL.keep st.kp p3, h4⟩
  obtain ⟨rw', sw⟩ := rp.write hi h1 st lay (rp.nd i)
  refine ⟨.ref l, h1, .inl ⟨rfl, ws, SqL.of h2⟩, l, ws, u, rfl, rfl, h2, p1, ?_⟩
  exact h _ _ ⟨_, [], rw', Lay.keep sw.kp p2, List.nodup_nil, fun a ha => (nomatch ha), sw.sub fun b hb => hb.elim id fun z => nomatch z⟩
end

/-! ### methods -/
def isIns (c m : Str) (o : Option D) : Bool := match o with
  | some (.ins c' ns _) => decide (c' = c) && (fIx m ns).isNone
  | some (.vi c' ns _) => decide (c' = c) && (fIx m ns).isNone
  | _ => false
def clsOf (o : Option D) : Option Str := match o with
  | some (.ins c _ _) => some c
  | some (.vi c _ _) => some c
  | _ => none
def insX (c m : Str) (x : Vx) (ss : Sl) : R Vx := if isIns c m (x.get ss) = true then .ok x ss else .err
def dIns (c m : Str) (f : EV) : EV := fun ss => (f ss).bind (insX c m)
def clsAt (r : R Vx) : Option Str := match r with
  | .ok x ss => clsOf (x.get ss)
  | _ => none
abbrev FKey := Str × Option Str
structure FnE where
  ps : List Str
  F : FV
  /-- within an except suite -/
  Fh : FV
def FnE.at (e : FnE) (hot : Bool) : FV := if hot = true then e.Fh else e.F
def dMeth (hot : Bool) (fn : List (FKey × FnE)) (m : Str) (f : EV) (gs : List EV) : EV := fun ss => match clsAt (f ss) with
  | some c => match fn.lookup (c, some m) with
    | some e => dCall e.ps.length (e.at hot) (foldA (dIns c m f :: gs)) ss
    | none => .err
  | none => .err
theorem s_ins {K : PySem.W.Frag} {W : WX} {σ : St} {H : Hp} {Q : VK} {c m : Str} {f : EV} (h : tE K W (dIns c m f) σ H Q) : tE K W f σ H fun x H1 => (∃ a dx fs, x = .ref a ∧ H1 a = some (.ins (He.ga K c) dx fs) ∧ fs.lookup m = none) ∧ Q x H1 := by
  obtain ⟨ss, Af, rp, h⟩ := h
  refine ⟨ss, Af, rp, ?_⟩
  unfold dIns at h
  cases e : f ss with
  | err => rw [e] at h; exact h
  | exc x s1 => rw [e] at h; exact h
  | ok x s1 =>
    rw [e] at h
    intro v H1 g
    have g0 := g
    obtain ⟨Af1, B1, r1, l1, n1, d1, st1⟩ := g
    have h : Wn (LayX K σ) K W σ H (Own Af) (insX c m x s1) Q := h
    unfold insX at h
    split at h
    · rename_i q
      refine ⟨?_, h v H1 g0⟩
      unfold isIns at q
      split at q
      · rename_i c' ns ds e2
        obtain ⟨q1, q2⟩ := Bool.and_eq_true_iff.mp q
        have q1 := of_decide_eq_true q1
        subst q1
        obtain ⟨A, a, dx, vs, B, e3, h3, hl, _⟩ := l1.read r1 e2
        exact ⟨a, dx, _, e3, h3, fIx_no (by simpa using q2)⟩
      · rename_i c' ns ds e2
        obtain ⟨q1, q2⟩ := Bool.and_eq_true_iff.mp q
        have q1 := of_decide_eq_true q1
        subst q1
        obtain ⟨A, _, a, dx, vs, e3, hz, h3, hl, _⟩ := l1.read r1 e2
        exact ⟨a, dx, _, e3, h3, fIx_no (by simpa using q2)⟩
      · cases q
    · exact h.elim
def tMethD (K : PySem.W.Frag) (c m : Str) (sp : Sp) (E : St → XK) (ta : TE) (t : TA) : TE := fun σ H Q => ta σ H fun x H1 =>
  (∃ a dx fs, x = .ref a ∧ H1 a = some (.ins (He.ga K c) dx fs) ∧ fs.lookup m = none) ∧ t σ H1 fun vs H2 => sp (x :: vs) H2 Q (E σ)
theorem s_meth {K : PySem.W.Frag} {W : WX} {σ : St} {H : Hp} {Q : VK} {hot : Bool} {fn : List (FKey × FnE)} {m : Str} {f : EV} {gs : List EV} (h : tE K W (dMeth hot fn m f gs) σ H Q) :
    ∃ c e, fn.lookup (c, some m) = some e ∧ tMethD K c m (spD K e.ps.length (e.at hot)) (WE W) (tE K W f) (tA K W (foldA gs)) σ H Q := by
  obtain ⟨ss, Af, rp, h⟩ := h
  unfold dMeth at h
  split at h
  rotate_left
  · exact h.elim
  rename_i c hc
  split at h
  rotate_left
  · exact h.elim
  rename_i e he
  refine ⟨c, e, he, ?_⟩
  have h1 : tE K W (dCall e.ps.length (e.at hot) (foldA (dIns c m f :: gs))) σ H Q := ⟨ss, Af, rp, h⟩
  exact s_ins (s_cons (s_call h1))

/-! ### making -/
def mkX (n : Nat) (F : FV) (c : Str) (xs : List Vx) (ss : Sl) : R Vx := match getAll xs ss with
  | some ds => if ds.length + 1 = n ∧ (plcs xs).Nodup then match F (.ins c [] [] :: ds) with
      | .ok .non (s :: as) => .ok (.val s) (wb xs as ss)
      | .exc e (_ :: as) => .exc e (wb xs as ss)
      | _ => .err
    else .err
  | none => .err
def dMake (n : Nat) (F : FV) (c : Str) (g : AV) : EV := fun ss => (g ss).bind (mkX n F c)
def tMakeD (K : PySem.W.Frag) (c : Str) (sp : Sp) (E : St → XK) (t : TA) : TE := fun σ H Q => t σ H fun vs H1 => ∀ x dx, H1 x = none → H1 dx = none → dx ≠ x →
  sp (.ref x :: vs) (upd (upd H1 dx (.own x)) x (.ins (He.ga K c) dx [])) (fun v H2 => v = .non ∧ Q (.ref x) H2) (E σ)
theorem argF_out {K : PySem.W.Frag} {H : Hp} {ss : Sl} {σ : St} {Af Bf : Nat → List Addr} {xs : List Vx} {B : List Addr} (r : Rep K H ss σ Af) (hb : ∀ k a, a ∈ Bf k → a ∈ B) (dj : ∀ a ∈ B, ¬ Own Af a) {i : Nat} {b : Addr} (hk : kOf xs i = none) (hbi : b ∈ Af i) : ¬ Own (argF xs Af Bf) b := fun ⟨k, hx⟩ => by
  unfold argF at hx
  cases q : xs[k]? with
  | none => rw [q] at hx; exact nomatch hx
  | some x =>
    rw [q] at hx
    cases x with
    | val d => exact dj b (hb k b hx) ⟨i, hbi⟩
    | plc j =>
      have e := r.dis i j b hbi hx
      subst e
      exact kOf_none hk (mem_plcs q)
theorem s_make {K : PySem.W.Frag} {W : WX} {σ : St} {H : Hp} {Q : VK} {n : Nat} {F : FV} {c : Str} {g : AV} (h : tE K W (dMake n F c g) σ H Q) : tMakeD K c (spD K n F) (WE W) (tA K W g) σ H Q := by
  obtain ⟨ss, Af, rp, h⟩ := h
  refine bindB Stp.refl (fun _ z => z) rp h fun xs vs H1 s1 Af1 B1 e1 r1 l1 n1 d1 st1 h => ?_
  unfold mkX at h
  split at h
  rotate_left
  · exact h.elim
  rename_i ds g1
  split at h
  rotate_left
  · exact h.elim
  rename_i cc
  obtain ⟨hn, np⟩ := cc
  intro x dx hx hdx ne
  have hx' : upd H1 dx (.own x) x = none := by rw [upd_ne (fun z => ne z.symm)]; exact hx
  have stA : ∀ G : Addr → Prop, Stp H1 G (upd (upd H1 dx (.own x)) x (.ins (He.ga K c) dx [])) (fun b => G b ∨ b = x) := fun G =>
    ((Stp.laid (F := G) (o := .own x) hdx).sub (G := G) fun b hb => .inl hb).trans (Stp.laid (F := G) hx') fun _ z => z
  have r2 : Rep K (upd (upd H1 dx (.own x)) x (.ins (He.ga K c) dx [])) s1 σ Af1 := r1.step (F := fun _ => False) (stA _) fun _ _ z => z
  have xB : x ∉ B1 := fun z => by
    obtain ⟨o, eo, _⟩ := LayXL.there xs vs B1 l1 x z
    rw [hx] at eo; cases eo
  have l2 : LayXL K σ (upd (upd H1 dx (.own x)) x (.ins (He.ga K c) dx [])) (.val (.ins c [] []) :: xs) (.ref x :: vs) (x :: B1) :=
    ⟨.ref x, vs, [x], B1, rfl, rfl, ⟨x, dx, [], [], rfl, upd_same, rfl, LayL.nil, rfl⟩, LayXL.stay (F := fun _ => False) (stA _) xs vs B1 l1 fun _ _ z => z⟩
  have n2 : (x :: B1).Nodup := List.nodup_cons.mpr ⟨xB, n1⟩
  have d2 : ∀ a ∈ x :: B1, ¬ Own Af1 a := fun a ha => (List.mem_cons.mp ha).elim (fun z => by rw [z]; exact r1.fresh hx) (d1 a)
  have z2 : ∀ a ∈ x :: B1, ¬ ZS.z a := fun a ha => (List.mem_cons.mp ha).elim (fun z y => r1.zl x (by rw [← z]; exact y) hx) fun z => rp.nzS st1 (.inr z)
  have g2 : getAll (.val (.ins c [] []) :: xs) s1 = some (.ins c [] [] :: ds) := by
    show (match (Vx.val (.ins c [] [])).get s1, getAll xs s1 with
      | some d, some ds => some (d :: ds)
      | _, _ => none) = _
    rw [g1]; rfl
  have np2 : (plcs (.val (.ins c [] []) :: xs)).Nodup := np
  obtain ⟨Bf, ra, hb⟩ := args_rep r2 l2 n2 d2 z2 g2 np2
  have hp := plcs_there g2
  refine ⟨.ins c [] [] :: ds, _, by simpa using hn, ra, ?_⟩
  have lift : ∀ {H3 : Hp} {F2 G2 : Addr → Prop}, Stp (upd (upd H1 dx (.own x)) x (.ins (He.ga K c) dx [])) (Own (argF (.val (.ins c [] []) :: xs) Af1 Bf)) H3 F2 → (∀ b, G2 b → Own Af1 b ∨ F2 b) → Stp H (Own Af) H3 G2 := fun {H3 F2 G2} s hs => by
    refine (st1.trans (stA _) fun _ z => z).trans (F1 := fun b => (Own Af1 b ∨ b ∈ B1) ∨ b = x) (G1 := fun b => (Own Af1 b ∨ b ∈ B1) ∨ b = x) ⟨s.kp, fun b o nf e => s.keep b o (fun z => nf ?_) e, fun b g => ?_⟩ fun _ z => z
    · rcases argF_own hb z with q | q
      · exact .inl (.inl q)
      · rcases List.mem_cons.mp q with q | q
        · exact .inr q
        · exact .inl (.inr q)
    · rcases hs b g with q | q
      · exact .inl (.inl (.inl q))
      · rcases s.new b q with q | q
        · refine .inl ?_
          rcases argF_own hb q with q | q
          · exact .inl (.inl q)
          · rcases List.mem_cons.mp q with q | q
            · exact .inr q
            · exact .inl (.inr q)
        · exact .inr q
  cases q : F (.ins c [] [] :: ds) with
  | err => rw [q] at h; exact h
  | ok d as =>
    rw [q] at h
    cases as with
    | nil => cases d <;> exact h.elim
    | cons s as =>
      cases d with
      | non =>
        rintro v H3 ⟨Af2, B2, r3, l3, n3, d3, st3⟩
        obtain ⟨rb, ob⟩ := back_rep r2 l2 np2 hp hb d2 r3 st3 fun b z => .inl z
        obtain ⟨v', y1, y2⟩ := r3.lay 0 s rfl
        have y1 : some (some (V.ref x)) = some (some v') := y1
        cases y1
        refine ⟨l3.1, h (.ref x) H3 ⟨backF (.val (.ins c [] []) :: xs) Af1 Af2, Af2 0, rb, y2, r3.nd 0, fun a ha ⟨i, hi⟩ => ?_, lift st3 fun b z => ?_⟩⟩
        · unfold backF at hi
          have key : kOf (.val (.ins c [] []) :: xs) i = (kOf xs i).map (· + 1) := rfl
          cases q5 : kOf (.val (.ins c [] []) :: xs) i with
          | some k =>
            rw [q5] at hi
            have e0 := r3.dis 0 k a ha hi
            rw [key] at q5
            cases q6 : kOf xs i with
            | none => rw [q6] at q5; cases q5
            | some k' => rw [q6] at q5; subst e0; cases q5
          | none =>
            rw [q5] at hi
            rcases st3.new a (.inl ⟨0, ha⟩) with y | y
            · exact argF_out r2 hb d2 q5 hi y
            · obtain ⟨o, eo, _⟩ := r2.there ⟨i, hi⟩
              rw [eo] at y; cases y
        · rcases z with z | z
          · exact (ob b z).elim (fun y => .inl y.1) fun y => .inr (.inl y)
          · exact .inr (.inl ⟨0, z⟩)
      | _ => exact h.elim
  | exc e as =>
    rw [q] at h
    cases as with
    | nil => exact h.elim
    | cons s as =>
      rintro cls y H3 ⟨Af2, r3, x3, st3⟩
      obtain ⟨rb, ob⟩ := back_rep r2 l2 np2 hp hb d2 r3 st3 fun b z => z
      exact h cls y H3 ⟨backF (.val (.ins c [] []) :: xs) Af1 Af2, rb, x3, lift st3 fun b z => (ob b z).elim (fun y => .inl y.1) .inr⟩
end Dn

set_option Elab.async false
set_option linter.all false
set_option maxRecDepth 100000
set_option maxHeartbeats 4000000
/-! Dn6j: isinstance of a pair of built-in classes, of the exception that a suite holds. -/
namespace Dn
open PySem L2
variable [ZS]

def isiD2 (d : D) (c1 c2 : Cl) : Option Bool := match tyD d with
  | some t => some (isTy t c1 || isTy t c2)
  | none => none
def asI2 (c1 c2 : Cl) (x : Vx) (ss : Sl) : R Vx := match x.get ss with
  | some d => match isiD2 d c1 c2 with
    | some b => .ok (.val (.bl b)) ss
    | none => .err
  | none => .err
def dIsi2 (c1 c2 : Cl) (f : EV) : EV := fun ss => (f ss).bind (asI2 c1 c2)
section
variable {K : PySem.W.Frag} {W : WX} {σ : St} {H : Hp} {Q : VK}
theorem s_isi2 {c1 c2 : Cl} {f : EV} (h : tE K W (dIsi2 c1 c2 f) σ H Q) : tCB (rIsiT K) (tCons (tE K W f) (tCons (tTup (tCons (tC (.ty c1.nm)) (tCons (tC (.ty c2.nm)) tNil))) tNil)) σ H Q := by
  obtain ⟨ss, Af, rp, h⟩ := h
  refine bindW rp h fun x v H1 s1 Af1 B1 e1 r1 l1 n1 d1 st1 h => ?_
  refine ⟨by rw [sizeLine_eq]; show 2 ≤ 16777216; decide, fun p hp => ?_⟩
  unfold asI2 at h
  split at h
  · rename_i d g
    split at h
    · rename_i b q
      have l2 : LayX K σ (upd H1 p (.tup [.ty c1.nm, .ty c2.nm])) x v B1 := LayX.stay (F := fun _ => False) (Stp.laid hp) l1 fun _ _ z => z
      obtain ⟨A, l⟩ := l2.read (r1.laid hp) g
      unfold isiD2 at q
      split at q
      · rename_i t qt
        cases q
        refine ⟨v, p, [.ty c1.nm, .ty c2.nm], .type t.nm, [.type c1.nm, .type c2.nm], _, rfl, upd_same, .cons (.ty _) (.cons (.ty _) .nil), lay_ty qt l, ?_, h _ _ ⟨Af1, [], r1.laid hp, ⟨rfl, rfl⟩, List.nodup_nil, fun a z => (nomatch z), (Stp.laid hp).sub fun b hb => hb.elim .inl fun z => nomatch z⟩⟩
        refine kitAny_cons (kit_ty (kit_all t c1)) (fun z => ?_) fun z => by rw [z]; rfl
        rw [z, Bool.false_or]
        refine kitAny_cons (kit_ty (kit_all t c2)) (fun z => ?_) fun z => z
        rw [z]
        exact kitAny_nil
      · cases q
    · exact h.elim
  · exact h.elim

/-! ### the exception that the suite holds -/
structure IsC (K : PySem.W.Frag) (D : Addr) : Prop where
  hcl : (PySem.W.clsIn K D).isSome = true
  ha : PySem.W.findIn K (.ref D) "__class__" = some (some (.builtin "object.__class__"))
  hn : PySem.W.specialIn K (.builtin "object.__class__") "__get__" = some (some (.builtin "getset_descriptor.__get__"))
  ht : PySem.W.takesIn K (.builtin "object.__class__") = some true
  hm : PySem.W.mroIn K D (.type "object") = some true
def isB (K : PySem.W.Frag) (D : Addr) : Bool := (PySem.W.clsIn K D).isSome && (decide (PySem.W.findIn K (.ref D) "__class__" = some (some (.builtin "object.__class__"))) &&
  (decide (PySem.W.specialIn K (.builtin "object.__class__") "__get__" = some (some (.builtin "getset_descriptor.__get__"))) && (decide (PySem.W.takesIn K (.builtin "object.__class__") = some true) && decide (PySem.W.mroIn K D (.type "object") = some true))))
theorem isB_ok {D : Addr} (h : isB K D = true) : IsC K D := by
  obtain ⟨h1, h⟩ := Bool.and_eq_true_iff.mp h
  obtain ⟨h2, h⟩ := Bool.and_eq_true_iff.mp h
  obtain ⟨h3, h⟩ := Bool.and_eq_true_iff.mp h
  obtain ⟨h4, h5⟩ := Bool.and_eq_true_iff.mp h
  exact ⟨h1, of_decide_eq_true h2, of_decide_eq_true h3, of_decide_eq_true h4, of_decide_eq_true h5⟩
/-- isinstance(e, c), e the exception that the suite holds, with a dict at dx -/
def rIsX (K : PySem.W.Frag) (D a dx : Addr) : List V → Hp → VK → Prop := fun xs H Q => ∃ (c : V) (cv : Value) (b : Bool), xs = [.ref a, c] ∧ (∀ u, RelV c u → u = cv) ∧ PySem.W.kitOne K (.ref D) cv = some b ∧ (∃ fs, H dx = some (.xd fs)) ∧ Q (.bl b) H
theorem call_isX {X : Cx} {a D dx : Addr} {oe : Obj} {pn : List (Addr × Obj)} (T : XfC X.K D) (C : IsC X.K D) (hz : Zc (.ref D) (some dx) oe) (hf : ∃ vs, oe.data = .fields vs) : CallR (X.suite a ((a, oe) :: pn)) (.builtin "isinstance") (rIsX X.K D a dx) := by
  intro pins s σ H xs us Q I r h
  obtain ⟨c, cv, b, e1, hcv, e, ⟨fs, hx⟩, q⟩ := h
  subst e1
  obtain ⟨u1, u2, e2, r1, r2⟩ := vals2 r
  subst e2
  cases (show u1 = Value.ref a from r1)
  have ec := hcv _ r2
  subst ec
  obtain ⟨hget, _⟩ := I.pin (a, oe) (List.mem_append_left _ List.mem_cons_self)
  obtain ⟨vs, hv⟩ := hf
  obtain ⟨mA, hns, hr⟩ := (show ObjOk X.prog X.w H s.heap dx (.xd fs) from I.hok dx _ hx)
  obtain ⟨od, ho, hl⟩ := lookIn_ns hns
  have J : PySem.W.InstAt s.heap a oe D (some od) := ⟨hget, hz.1, by unfold PySem.W.notCls; rw [hv] <;> rfl, by rw [hz.2]; exact ho⟩
  exact PySem.W.kia_one (PySem.W.kitx_exc (gt := none) C.hcl T.ga T.gg T.exC C.ha C.hn C.ht C.hm) I.kIn J e (fun z => nomatch z) fun tk => ⟨.bl b, H, I.kept (t' := tk) fun _ _ z => z, rfl, q⟩
/-- the classes that isinstance asks for: ValueError, or an own one -/
def cvV (K : PySem.W.Frag) (T : Str) : V := if T = "ValueError" then .ty "ValueError" else .ref (He.ga K T)
def cvU (K : PySem.W.Frag) (T : Str) : Value := if T = "ValueError" then .type "ValueError" else .ref (He.ga K T)
theorem cv_rel {T : Str} {u : Value} (r : RelV (cvV K T) u) : u = cvU K T := by
  unfold cvV at r
  unfold cvU
  split at r
  · rename_i c; rw [if_pos c]; exact r
  · rename_i c; rw [if_neg c]; exact r
def asIX (m : List ((Str × Str) × Bool)) (a dx : Nat) (c T : Str) (x : Vx) (ss : Sl) : R Vx := match x with
  | .val (.exo a' dx' c' ns ds) => if a' = a ∧ dx' = dx ∧ c' = c then match m.lookup (c, T) with
      | some b => .ok (.val (.bl b)) ss
      | none => .err
    else .err
  | _ => .err
def dIsX (m : List ((Str × Str) × Bool)) (a dx : Nat) (c T : Str) (f : EV) : EV := fun ss => (f ss).bind (asIX m a dx c T)
theorem s_isX {m : List ((Str × Str) × Bool)} {a dx : Nat} {c T : Str} {f : EV} (hm : ∀ b, m.lookup (c, T) = some b → PySem.W.kitOne K (.ref (He.ga K c)) (cvU K T) = some b) (h : tE K W (dIsX m a dx c T f) σ H Q) :
    tCB (rIsX K (He.ga K c) a dx) (tCons (tE K W f) (tCons (tC (cvV K T)) tNil)) σ H Q := by
  obtain ⟨ss, Af, rp, h⟩ := h
  refine bindW rp h fun x v H1 s1 Af1 B1 e1 r1 l1 n1 d1 st1 hw => ?_
  clear h
  unfold asIX at hw
  split at hw
  · rename_i a' dx' c' ns ds
    split at hw
    · rename_i q
      obtain ⟨q1, q2, q3⟩ := q
      subst q1; subst q2; subst q3
      obtain ⟨z, ev, vs, hx, hl, ll⟩ := (show Lay K H1 (.exo a' dx' c' ns ds) v B1 from l1)
      subst ev
      split at hw
      · rename_i b hb
        exact ⟨cvV K T, cvU K T, b, rfl, fun u => cv_rel, hm b hb, ⟨_, hx⟩, Wn.done r1 hw ⟨rfl, rfl⟩⟩
      · exact hw.elim
    · exact hw.elim
  · exact hw.elim
end
end Dn

set_option Elab.async false
set_option linter.all false
set_option maxRecDepth 100000
set_option maxHeartbeats 4000000
/-! Dn6k: a comprehension over a list whose items the loop's name changes. -/
namespace Dn
open PySem L2
variable [ZS]

def joinS (j i k : Nat) (es : List D) (s : Sl) : Option Sl := match s[j]?, s[i]? with
  | some none, some (some d) => some ((s.set i none).set j (some (.ml (es.set k d))))
  | _, _ => none
def lcmX (k : Nat) (o : Option (Option D)) : Option (List D × D) := match o with
  | some (some (.ml es)) => match es[k]? with
    | some d => some (es, d)
    | none => none
  | _ => none
def lcmE (k : Nat) (o : Option (Option D)) : Bool := match o with
  | some (some (.ml es)) => decide (es.length = k)
  | _ => false
def lcmGo (j i : Nat) (tt : TV) (te : EV) (vs : List Nat) : Nat → Nat → List D → Sl → R (List D)
  | 0, k, acc, ss => if (purS ss vs && lcmE k (wipeS ss vs)[j]?) = true then .ok acc (wipeS ss vs) else .err
  | n + 1, k, acc, ss => if purS ss vs = true then match lcmX k (wipeS ss vs)[j]? with
      | some (es, d) => match tt (((wipeS ss vs).set j none).set i (some d)) with
        | .ok b s2 => if b = true then match te s2 with
            | .ok (.val x) s3 => if x.pure = true ∧ acc.length < sizeLine then match joinS j i k es s3 with
                | some s4 => lcmGo j i tt te vs n (k + 1) (acc ++ [x]) s4
                | none => .err
              else .err
            | _ => .err
          else match joinS j i k es s2 with
            | some s4 => lcmGo j i tt te vs n (k + 1) acc s4
            | none => .err
        | _ => .err
      | none => .err
    else .err
def lenMl (o : Option (Option D)) : Option Nat := match o with
  | some (some (.ml es)) => some es.length
  | _ => none
def lcmN (j i : Nat) (tt : TV) (te : EV) (vs : List Nat) (ss : Sl) (o : Option Nat) : R Vx := match o with
  | some n => if purS ss vs = true ∧ i ∈ vs ∧ j ∉ vs ∧ i < ss.length then (lcmGo j i tt te vs n 0 [] ss).bind (lcEnd ss vs) else .err
  | none => .err
def dLcM (j i : Nat) (tt : TV) (te : EV) (vs : List Nat) : EV := fun ss => lcmN j i tt te vs ss (lenMl ss[j]?)
theorem lenMl_spec {o : Option (Option D)} {n : Nat} (h : lenMl o = some n) : ∃ es, o = some (some (.ml es)) ∧ es.length = n := by
  unfold lenMl at h
  split at h
  · cases h; exact ⟨_, rfl, rfl⟩
  · cases h
theorem lcmX_spec {k : Nat} {o : Option (Option D)} {es : List D} {d : D} (h : lcmX k o = some (es, d)) : o = some (some (.ml es)) ∧ es[k]? = some d := by
  unfold lcmX at h
  split at h
  · split at h
    · cases h; exact ⟨rfl, ‹_›⟩
    · cases h
  · cases h
theorem lcmE_spec {k : Nat} {o : Option (Option D)} (h : lcmE k o = true) : ∃ es, o = some (some (.ml es)) ∧ es.length = k := by
  unfold lcmE at h
  split at h
  · exact ⟨_, rfl, of_decide_eq_true h⟩
  · cases h
theorem joinS_spec {j i k : Nat} {es : List D} {s s4 : Sl} (h : joinS j i k es s = some s4) : ∃ d, s[j]? = some none ∧ s[i]? = some (some d) ∧ s4 = (s.set i none).set j (some (.ml (es.set k d))) := by
  unfold joinS at h
  split at h
  · cases h; exact ⟨_, ‹_›, ‹_›, rfl⟩
  · cases h
section
variable {K : PySem.W.Frag} {H : Hp} {ss : Sl} {σ : St} {Af : Nat → List Addr}
theorem put_out {i : Nat} {a : Addr} (r : Rep K H ss σ Af) (ha : a ∈ Af i) : ¬ Own (put Af i []) a := fun ⟨k, hk⟩ => by
  by_cases z : k = i
  · subst z; rw [put_self] at hk; exact nomatch hk
  · rw [put_ne z] at hk; exact z (r.dis k i a hk ha)
/-- an item goes back into its list -/
theorem join_ok {H' : Hp} {j i k l : Nat} {es : List D} {d' : D} {vL : List V} {u : V} {B1 C B2 : List Addr} {ss1 : Sl} {Af1 : Nat → List Addr} {F : Addr → Prop} (ne : i ≠ j)
    (hkp : Kp H H') (hl : H l = some (.lst vL)) (hu : vL[k]? = some u) (hnd : (l :: (B1 ++ (C ++ B2))).Nodup) (hm : ∀ a ∈ l :: (B1 ++ (C ++ B2)), ∃ o, H a = some o) (hz : ∀ a ∈ l :: (B1 ++ (C ++ B2)), ¬ ZS.z a)
    (cl : ∀ (H' : Hp) (d' : D) (v' : V) (C' : List Addr), Kp H H' → (∀ a, a ∈ B1 ∨ a ∈ B2 → ∀ o, H a = some o → H' a = some o) → Lay K H' d' v' C' → LayL K H' (es.set k d') (vL.set k v') (B1 ++ (C' ++ B2)))
    (hF : ∀ a, a = l ∨ a ∈ B1 ∨ a ∈ B2 → ¬ F a) (keep : ∀ b o, ¬ F b → H b = some o → H' b = some o) (new : ∀ b, Own Af1 b → F b ∨ H b = none)
    (r1 : Rep K H' ss1 σ Af1) (hsj : σ[j]? = some (some (.ref l))) (hsi : σ[i]? = some (some u)) (hj : ss1[j]? = some none) (hi : ss1[i]? = some (some d')) :
    ∃ Af2, Rep K H' ((ss1.set i none).set j (some (.ml (es.set k d')))) σ Af2 ∧ ∀ b, Own Af2 b → Own Af1 b ∨ b = l ∨ b ∈ B1 ∨ b ∈ B2 := by
  obtain ⟨v', w1, w2⟩ := r1.lay i d' hi
  rw [hsi] at w1; cases w1
  obtain ⟨lB, nB⟩ := List.nodup_cons.mp hnd
  obtain ⟨p1, p2, p3⟩ := List.nodup_append.mp nB
  obtain ⟨p4, p5, p6⟩ := List.nodup_append.mp p2
  have out : ∀ a, a = l ∨ a ∈ B1 ∨ a ∈ B2 → ¬ Own Af1 a := fun a ha z => by
    rcases new a z with q | q
    · exact hF a ha q
    · obtain ⟨o, eo⟩ := hm a (by
        rcases ha with h | h | h
        · exact h ▸ List.mem_cons_self
        · exact List.mem_cons_of_mem _ (List.mem_append_left _ h)
        · exact List.mem_cons_of_mem _ (List.mem_append_right _ (List.mem_append_right _ h)))
      rw [eo] at q; cases q
  have kp : ∀ a, a = l ∨ a ∈ B1 ∨ a ∈ B2 → ∀ o, H a = some o → H' a = some o := fun a ha o eo => keep a o (hF a ha) eo
  have ll := cl H' d' u (Af1 i) hkp (fun a ha => kp a (.inr ha)) w2
  have eu : vL.set k u = vL := by
    have hk := (List.getElem?_eq_some_iff.mp hu)
    rw [← hk.2, List.set_getElem_self]
  rw [eu] at ll
  have lay : Lay K H' (.ml (es.set k d')) (.ref l) (l :: (B1 ++ (Af1 i ++ B2))) := ⟨l, vL, _, rfl, kp l (.inl rfl) _ hl, ll, rfl⟩
  have io : ∀ a, a ∈ Af1 i → Own Af1 a := fun a ha => ⟨i, ha⟩
  have cases3 : ∀ a, a ∈ l :: (B1 ++ (Af1 i ++ B2)) → (a = l ∨ a ∈ B1 ∨ a ∈ B2) ∨ a ∈ Af1 i := fun a ha => by
    rcases List.mem_cons.mp ha with h | h
    · exact .inl (.inl h)
    · rcases List.mem_append.mp h with h | h
      · exact .inl (.inr (.inl h))
      · rcases List.mem_append.mp h with h | h
        · exact .inr h
        · exact .inl (.inr (.inr h))
  have nd : (l :: (B1 ++ (Af1 i ++ B2))).Nodup := by
    refine List.nodup_cons.mpr ⟨fun z => ?_, List.nodup_append.mpr ⟨p1, List.nodup_append.mpr ⟨r1.nd i, p5, fun a ha b hb e => ?_⟩, fun a ha b hb e => ?_⟩⟩
    · rcases List.mem_append.mp z with h | h
      · exact lB (List.mem_append_left _ h)
      · rcases List.mem_append.mp h with h | h
        · exact out l (.inl rfl) (io l h)
        · exact lB (List.mem_append_right _ (List.mem_append_right _ h))
    · subst e; exact out a (.inr (.inr hb)) (io a ha)
    · subst e
      rcases List.mem_append.mp hb with h | h
      · exact out a (.inr (.inl ha)) (io a h)
      · exact p3 a ha a (List.mem_append_right _ h) rfl
  have rc := Rep.clear i r1
  have hjl : j < (ss1.set i none).length := by rw [List.length_set]; exact (List.getElem?_eq_some_iff.mp hj).1
  have rs := rc.set (i := j) lay nd (fun a ha => .inl ?_) (fun a ha => ?_) hjl
  · have es2 : σ.set j (some (.ref l)) = σ := by
      have hk := (List.getElem?_eq_some_iff.mp hsj)
      rw [← hk.2, List.set_getElem_self]
    rw [es2] at rs
    refine ⟨_, rs, fun b hb => ?_⟩
    rcases own_put hb with q | q
    · exact .inl (own_clear q)
    · rcases cases3 b q with q | q
      · exact .inr q
      · exact .inl (io b q)
  · rcases cases3 a ha with q | q
    · exact fun z => out a q (own_clear z)
    · exact put_out r1 q
  · rcases cases3 a ha with q | q
    · refine hz a ?_
      rcases q with h | h | h
      · exact h ▸ List.mem_cons_self
      · exact List.mem_cons_of_mem _ (List.mem_append_left _ h)
      · exact List.mem_cons_of_mem _ (List.mem_append_right _ (List.mem_append_right _ h))
    · exact r1.nz a (io a q)
/-- such a comprehension's reading -/
theorem s_lcM {W : WX} {Q : VK} {j i : Nat} {tt : TV} {te : EV} {vs : List Nat} (h : tE K W (dLcM j i tt te vs) σ H Q) : tLc (iList K (tVar j)) (gName i) (tT K (fun _ _ _ _ => False) tt) (tE K (fun _ _ _ _ => False) te) vs σ H Q := by
  obtain ⟨ss, Af, rp, h⟩ := h
  unfold dLcM lcmN at h
  split at h
  rotate_left
  · exact h.elim
  rename_i n hn
  split at h
  rotate_left
  · exact h.elim
  rename_i c0
  obtain ⟨pu, hiv, hjv, hilt⟩ := c0
  have ne : i ≠ j := fun z => hjv (z ▸ hiv)
  obtain ⟨es0, e0, en0⟩ := lenMl_spec hn
  obtain ⟨v0, h0, l, vL, B0, ev, hl0, ll0, eA0⟩ := rp.lay j _ e0
  subst ev
  refine ⟨.ref l, h0, l, rfl, ⟨vL, SqL.of hl0⟩, ?_⟩
  intro D hD
  have slen : ss.length = σ.length := rp.len
  have vlen : vL.length = n := by rw [LayL.len ll0]; exact en0
  -- before turn k: the slots ss', the row so far
  let P : Nat → Hp → Prop := fun k H' => ∃ ss' σ' Af' acc ys, Rep K H' ss' σ' Af' ∧ wipe σ' vs = wipe σ vs ∧ H' D = some (.lst ys) ∧ LayL K H' acc ys [] ∧ ¬ Own Af' D ∧ Stp H (Own Af) H' (fun b => Own Af' b ∨ b = D) ∧ (∃ es, ss'[j]? = some (some (.ml es)) ∧ es.length = n) ∧ H' l = some (.lst vL) ∧
    Wn (LayX K σ) K W σ H (Own Af) ((lcmGo j i tt te vs (n - k) k acc ss').bind (lcEnd ss vs)) Q
  have P0 : P 0 (upd H D (.lst [])) := by
    refine ⟨ss, σ, Af, [], [], rp.laid hD, rfl, upd_same, LayL.nil, rp.fresh hD, Stp.laid hD, ⟨es0, e0, en0⟩, ?_, h⟩
    rw [upd_ne (fun z => by rw [z, hD] at hl0; cases hl0)]; exact hl0
  refine ⟨fun k m H' => (m + k = n ∧ k ≤ n) ∧ P k H', ⟨n, ⟨rfl, Nat.zero_le _⟩, P0⟩, ?_⟩
  rintro k m H' ⟨⟨hm, hkn⟩, ss', σ', Af', acc, ys, r0, hw, hD', la, nD, st', ⟨es1, e1, en1⟩, hl1, h'⟩
  have hl' : ss'.length = σ.length := by
    have h1 := r0.len
    have h2 := congrArg List.length hw
    rw [wipe_length, wipe_length] at h2
    omega
  have rw0 : purS ss' vs = true → Rep K H' (wipeS ss' vs) (wipe σ vs) Af' := fun p => by
    have := wipe_rep r0 fun v hv => purS_emp r0 p hv
    rw [hw] at this
    exact this
  by_cases hk : k < n
  · right
    have hd : n - k = (n - (k + 1)) + 1 := by omega
    rw [hd] at h'
    unfold lcmGo at h'
    split at h'
    rotate_left
    · exact h'.elim
    rename_i c1
    have r' := rw0 c1
    split at h'
    rotate_left
    · exact h'.elim
    rename_i es d hx
    obtain ⟨x1, x2⟩ := lcmX_spec hx
    obtain ⟨v', q1, l', vL', B, q2, q3, q4, q5⟩ := r'.lay j _ x1
    have hsj : (wipe σ vs)[j]? = some (some (.ref l)) := by rw [wipe_out' hjv]; exact h0
    rw [hsj] at q1; cases q1
    cases q2
    rw [hl1] at q3; cases q3
    have hkl : k < es.length := (List.getElem?_eq_some_iff.mp x2).1
    obtain ⟨u, B1, C, B2, u1, u2, u3, u4⟩ := LayL.at (i := k) q4 x2
    subst u2
    have hnd : (l :: (B1 ++ (C ++ B2))).Nodup := by rw [← q5]; exact r'.nd j
    have hown : ∀ a ∈ l :: (B1 ++ (C ++ B2)), Own Af' a := fun a ha => ⟨j, by rw [q5]; exact ha⟩
    have hm' : ∀ a ∈ l :: (B1 ++ (C ++ B2)), ∃ o, H' a = some o := fun a ha => by
      obtain ⟨o, eo, _⟩ := r'.there (hown a ha)
      exact ⟨o, eo⟩
    have hz : ∀ a ∈ l :: (B1 ++ (C ++ B2)), ¬ ZS.z a := fun a ha => r'.nz a (hown a ha)
    obtain ⟨lB, nB⟩ := List.nodup_cons.mp hnd
    obtain ⟨p1, p2, p3⟩ := List.nodup_append.mp nB
    obtain ⟨p4, p5, p6⟩ := List.nodup_append.mp p2
    have inC : ∀ a ∈ C, a ∈ Af' j := fun a ha => by rw [q5]; exact List.mem_cons_of_mem _ (List.mem_append_right _ (List.mem_append_left _ ha))
    refine ⟨⟨vL, u, SqL.of hl1, u1⟩, P (k + 1), fun H2 p => ⟨m - 1, by omega, ⟨by omega, by omega⟩, p⟩, fun x H2 y => ?_⟩
    obtain ⟨ey, y⟩ := y
    have ey := ey.symm
    subst ey
    have := y vL (SqL.of hl1)
    rw [u1] at this; cases this
    show wipe ((wipe σ vs).set i (some u)) vs = wipe σ vs ∧ _
    have hil : i < (wipeS ss' vs).length := by rw [wipeS_len, hl', ← slen]; exact hilt
    have w3 : wipe ((wipe σ vs).set i (some u)) vs = wipe σ vs := by
      refine wipe_same (by rw [List.length_set, wipe_length]) fun a ha => ?_
      have hne : i ≠ a := fun z => (mem_outL.mp ha).2 (z ▸ hiv)
      rw [List.getElem?_set_ne hne]
    have rc := Rep.clear j r'
    have r3 := rc.set (i := i) u3 p4 (fun a ha => .inl (put_out r' (inC a ha))) (fun a ha => hz a (List.mem_cons_of_mem _ (List.mem_append_right _ (List.mem_append_left _ ha)))) (by rw [List.length_set]; exact hil)
    refine ⟨w3, _, _, r3, ?_⟩
    have own3 : ∀ b, Own (put (put Af' j []) i C) b → Own Af' b := fun b hb => (own_put hb).elim own_clear fun z => ⟨j, inC b z⟩
    have hF : ∀ a, a = l ∨ a ∈ B1 ∨ a ∈ B2 → ¬ Own (put (put Af' j []) i C) a := fun a ha z => by
      have haj : a ∈ Af' j := by
        rw [q5]
        rcases ha with h | h | h
        · exact h ▸ List.mem_cons_self
        · exact List.mem_cons_of_mem _ (List.mem_append_left _ h)
        · exact List.mem_cons_of_mem _ (List.mem_append_right _ (List.mem_append_right _ h))
      rcases own_put z with z | z
      · exact put_out r' haj z
      · rcases ha with h | h | h
        · exact lB (List.mem_append_right _ (List.mem_append_left _ (h ▸ z)))
        · exact p3 a h a (List.mem_append_left _ z) rfl
        · exact p6 a z a h rfl
    have nD3 : ¬ Own (put (put Af' j []) i C) D := fun z => nD (own3 D z)
    have lD : l ≠ D := fun z => nD (z ▸ hown l List.mem_cons_self)
    have hsi : ((wipe σ vs).set i (some u))[i]? = some (some u) := List.getElem?_set_self (by rw [wipe_length, ← slen]; exact hilt)
    have hsj3 : ((wipe σ vs).set i (some u))[j]? = some (some (.ref l)) := by rw [List.getElem?_set_ne ne]; exact hsj
    have fin : ∀ {H5 : Hp} {s s6 : Sl} {Af5 : Nat → List Addr}, Rep K H5 s ((wipe σ vs).set i (some u)) Af5 → Stp H' (Own (put (put Af' j []) i C)) H5 (Own Af5) → joinS j i k es s = some s6 →
        ∃ Af6, Rep K H5 s6 ((wipe σ vs).set i (some u)) Af6 ∧ ¬ Own Af6 D ∧ Stp H (Own Af) H5 (fun b => Own Af6 b ∨ b = D) ∧ (∃ es, s6[j]? = some (some (.ml es)) ∧ es.length = n) ∧ H5 l = some (.lst vL) := fun {H5 s s6 Af5} r5 st5 hj6 => by
      obtain ⟨d', j1, j2, j3⟩ := joinS_spec hj6
      subst j3
      obtain ⟨Af6, r6, o6⟩ := join_ok ne st5.kp hl1 u1 hnd hm' hz u4 hF st5.keep st5.new r5 hsj3 hsi j1 j2
      have nD5 : ¬ Own Af5 D := st5.out nD3 hD'
      have nl : ∀ a, a = l ∨ a ∈ B1 ∨ a ∈ B2 → Own Af' a := fun a ha => hown a (by
        rcases ha with h | h | h
        · exact h ▸ List.mem_cons_self
        · exact List.mem_cons_of_mem _ (List.mem_append_left _ h)
        · exact List.mem_cons_of_mem _ (List.mem_append_right _ (List.mem_append_right _ h)))
      refine ⟨Af6, r6, fun z => ?_, ?_, ⟨_, List.getElem?_set_self (by rw [List.length_set]; exact (List.getElem?_eq_some_iff.mp j1).1), ?_⟩, st5.keep l _ (hF l (.inl rfl)) hl1⟩
      · rcases o6 D z with y | y
        · exact nD5 y
        · exact nD (nl D y)
      · have t : Stp H' (fun b => Own Af' b ∨ b = D) H5 (fun b => Own Af6 b ∨ b = D) := ⟨st5.kp, fun b o nf e => st5.keep b o (fun z => nf (.inl (own3 b z))) e, fun b hb => by
          rcases hb with hb | hb
          · rcases o6 b hb with y | y
            · exact (st5.new b y).imp (fun z => .inl (own3 b z)) id
            · exact .inl (.inl (nl b y))
          · exact .inl (.inr hb)⟩
        exact st'.trans t fun _ z => z
      · rw [List.length_set, ← LayL.len q4]
        exact vlen
    cases q2 : tt (((wipeS ss' vs).set j none).set i (some d)) with
    | err => rw [q2] at h'; exact h'.elim
    | exc e s => rw [q2] at h'; exact h'.elim
    | ok b s4 =>
      rw [q2] at h'
      dsimp only at h'
      rintro b' H4 ⟨Af4, B4, r4, ⟨z1, z2⟩, _, _, st4⟩
      subst z1; subst z2
      have st4 : Stp H' (Own (put (put Af' j []) i C)) H4 (Own Af4) := st4.sub fun b hb => .inl hb
      have hD4 : H4 D = some (.lst ys) := st4.keep D _ nD3 hD'
      have la4 := LayL.keep st4.kp la
      cases b' with
      | false =>
        rw [if_neg Bool.false_ne_true] at h' ⊢
        split at h'
        · rename_i s6 hj6
          obtain ⟨Af6, f1, f2, f3, f4, f5⟩ := fin r4 st4 hj6
          exact ⟨s6, _, Af6, acc, ys, f1, w3, hD4, la4, f2, f3, f4, f5, h'⟩
        · exact h'.elim
      | true =>
        rw [if_pos rfl] at h' ⊢
        refine ⟨s4, Af4, r4, ?_⟩
        cases q3 : te s4 with
        | err => rw [q3] at h'; exact h'.elim
        | exc e s => rw [q3] at h'; exact h'.elim
        | ok y s5 =>
          rw [q3] at h'
          cases y with
          | plc j => exact h'.elim
          | val d2 =>
            dsimp only at h'
            split at h'
            rotate_left
            · exact h'.elim
            rename_i c3
            obtain ⟨p3', z3⟩ := c3
            split at h'
            rotate_left
            · exact h'.elim
            rename_i s6 hj6
            rintro v H5 ⟨Af5, B5, r5, l5, _, _, st5⟩
            have l5 : Lay K H5 d2 v B5 := l5
            have e5 := l5.emp p3'
            subst e5
            have st5 : Stp H4 (Own Af4) H5 (Own Af5) := st5.sub fun b hb => .inl hb
            have st45 := st4.trans st5 fun _ z => z
            have hD5 : H5 D = some (.lst ys) := st45.keep D _ nD3 hD'
            have la5 := LayL.keep st5.kp la4
            obtain ⟨Af6, f1, f2, f3, f4, f5⟩ := fin r5 st45 hj6
            refine ⟨ys, hD5, by rw [LayL.len la5]; exact z3, ?_⟩
            have nzD : ¬ ZS.z D := fun z => rp.zl D z hD
            have sw : Stp H5 (fun b => Own Af6 b ∨ b = D) (upd H5 D (.lst (ys ++ [v]))) (fun b => Own Af6 b ∨ b = D) := Stp.wrote (.inr rfl) hD5 (.inl ⟨_, rfl⟩) nzD
            have sw1 : Stp H5 (fun b => b = D) (upd H5 D (.lst (ys ++ [v]))) (fun b => b = D) := Stp.wrote rfl hD5 (.inl ⟨_, rfl⟩) nzD
            refine ⟨s6, _, Af6, acc ++ [d2], ys ++ [v], f1.step sw1 fun b hb z => f2 (z ▸ hb), w3, upd_same, ?_, f2, f3.trans sw fun _ z => z, f4, by rw [upd_ne lD]; exact f5, h'⟩
            have := LayL.append (LayL.keep sw1.kp la5) (LayL.cons0 (Lay.keep sw1.kp l5) LayL.nil)
            rw [List.append_nil] at this
            exact this
  · left
    have hd : n - k = 0 := by omega
    have hkn' : k = n := by omega
    rw [hd] at h'
    unfold lcmGo at h'
    split at h'
    · rename_i c
      obtain ⟨c1, c2⟩ := Bool.and_eq_true_iff.mp c
      have r' := rw0 c1
      refine ⟨⟨vL, SqL.of hl1, by omega⟩, ?_⟩
      have rr := rest_rep rp pu st'.kp r' fun v hv d => wipeS_in hv d
      refine h' (.ref D) H' ⟨Af', [D], rr, ⟨D, ys, [], rfl, hD', la, rfl⟩, by simp, fun a ha => ?_, st'.sub fun b hb => hb.imp id fun z => by simpa using z⟩
      have : a = D := by simpa using ha
      subst this; exact nD
    · exact h'.elim
end
end Dn

set_option Elab.async false
set_option linter.all false
set_option maxRecDepth 100000
set_option maxHeartbeats 4000000
/-! Dn7: the denotation of expressions, and that it is sound. -/
namespace Dn
open PySem L2
variable [ZS]

/-- hints, by names and rows of the program's text -/
structure Hint where
  /-- names whose items are read among views -/
  rov : List Str
  /-- comprehensions whose name's object is changed -/
  lcm : List Nat
  /-- statements that let a name's object stand elsewhere, too: for how many statements -/
  al : List (Nat × Nat)
/-- the context: slots, scope, what the module's names are -/
structure Cc where
  N : List Str
  sc : Scope
  k : Nat
  fn : List (FKey × FnE)
  kw : List (Str × List Str)
  cst : List (Str × D)
  st : Scope
  /-- own exception classes: their fields -/
  exc : List (Str × Str)
  /-- is an exception of the first class taken by a clause of the second -/
  exm : List ((Str × Str) × Bool)
  /-- isinstance of an exception of the first class, of the second -/
  isx : List ((Str × Str) × Bool)
  /-- classes and their fields -/
  fld : List (Str × Str)
  /-- names of defs and methods that change what they are given -/
  chg : List Str
  /-- within an except suite -/
  hot : Bool
  /-- the exception that it holds: where, its dict, its class -/
  ex : Option (Nat × Nat × Str)
  hn : Hint

def Cc.slot (C : Cc) (x : Str) : Option Nat := match C.sc.names.lookup x with
  | some .local => C.N.findIdx? fun y => decide (y = x)
  | some .cell => C.N.findIdx? fun y => decide (y = x)
  | some .free => C.N.findIdx? fun y => decide (y = x)
  | _ => none
def Cc.glob (C : Cc) (x : Str) : Bool := match C.sc.names.lookup x with
  | some .globalImplicit => !(x == ("__debug__" : Str))
  | _ => false
def notStar : Expr → Bool
  | .Starred _ _ => false
  | _ => true
def isSlice : Expr → Bool
  | .Slice _ _ _ _ => true
  | _ => false

/-! ### more combinators -/
def negD : D → Option D
  | .int i => some (.int (-i))
  | _ => none
def dConst : Const → EV
  | .none => dCst .non
  | .bool b => dCst (.bl b)
  | .int i => dCst (.int i)
  | .str s => dCst (.str s)
  | _ => dErr
def okName (x : Str) : Bool := !(x == ("__debug__" : Str)) && !(x == ("__classdict__" : Str))
def dName (C : Cc) (x : Str) : EV := if okName x = true then match C.slot x with
    | some i => dVar i
    | none => if C.glob x = true then match C.cst.lookup x with
        | some d => dCst d
        | none => dErr
      else dErr
  else dErr
def boolE (op : BoolOp) : List EV → EV
  | [] => dErr
  | [f] => f
  | f :: g :: fs => match op with
    | .And => dAndE f (boolE op (g :: fs))
    | .Or => dOrE f (boolE op (g :: fs))
def dErrT : TV := fun _ => .err
def boolT (op : BoolOp) : List TV → TV
  | [] => dErrT
  | [f] => f
  | f :: g :: fs => match op with
    | .And => dAndT f (boolT op (g :: fs))
    | .Or => dOrT f (boolT op (g :: fs))
def cmpE (ops : List CmpOp) (bs : List Expr) (a : EV) (fs : List EV) : EV := match ops, bs, fs with
  | [o], [b], [f] => if behindInMarks o b = false then d2 (cmpD' o) a f else dErr
  | [o1, o2], [b, c], [f, g] => if lastMarks [o1, o2] [b, c] = false then dChain o1 o2 a f g else dErr
  | _, _, _ => dErr
def frzArg : Expr → EV → EV
  | .List _ _, f => dFrz f
  | .ListComp _ _ _ _, f => dFrz f
  | .BinOp _ _ _ _, f => dFrz f
  | .Subscript _ _ _, f => dFrz f
  | _, f => f
def frzArgs : List Expr → List EV → List EV
  | e :: es, f :: fs => frzArg e f :: frzArgs es fs
  | _, _ => []
def kwNames (kws : List Keyword) : Option (List Str) := kws.mapM (·.arg)
def isxF (m : List ((Str × Str) × Bool)) (a dx : Nat) (c T : Str) (f : EV) : EV := if (m.lookup (c, T)).isSome = true then dIsX m a dx c T f else dErr
def isiE (C : Cc) (args : List Expr) (kws : List Keyword) (fs : List EV) : EV := match args, fs, kws with
  | [a, .Name T _], [f, _], [] => if C.glob T = true ∧ notStar a = true then match clOf T with
      | some c => dIsi c f
      | none => match C.ex with
        | some (a0, dx, c) => isxF C.isx a0 dx c T f
        | none => dErr
    else dErr
  | [a, .Tuple [.Name T1 _, .Name T2 _] _ _], [f, _], [] => if (C.glob T1 = true ∧ C.glob T2 = true) ∧ notStar a = true then match clOf T1, clOf T2 with
      | some c1, some c2 => dIsi2 c1 c2 f
      | _, _ => dErr
    else dErr
  | _, _, _ => dErr
def defE (C : Cc) (x : Str) (e : FnE) (args : List Expr) (kws : List Keyword) (fs ks : List EV) : EV := match kws with
  | [] => if args.all notStar = true ∧ (C.hot = true → args ≠ []) then dCall e.ps.length (e.at C.hot) (foldA (frzArgs args fs)) else dErr
  | _ :: _ => if C.hot = true then dErr else match args, kwNames kws with
    | [], some nm => if (x, nm) ∈ C.kw then dCallK e.ps nm e.F (foldA (ks.map dFrz)) else dErr
    | _, _ => dErr
def bltE (x : Str) (args : List Expr) (kws : List Keyword) (fs : List EV) : EV := match bltOf x, args, kws with
  | some b, _ :: _, [] => if args.all notStar = true then dPrim (bltD b) (foldA fs) else dErr
  | _, _, _ => dErr
def makE (x : Str) (e : FnE) (args : List Expr) (kws : List Keyword) (fs : List EV) : EV := match kws with
  | [] => if args.all notStar = true then dMake e.ps.length e.F x (foldA (frzArgs args fs)) else dErr
  | _ :: _ => dErr
def callE (C : Cc) (x : Str) (args : List Expr) (kws : List Keyword) (fs ks : List EV) : EV :=
  if C.glob x = true then
    if x = "isinstance" then isiE C args kws fs
    else match C.fn.lookup (x, none) with
      | some e => defE C x e args kws fs ks
      | none => if C.hot = true then dErr else match C.fn.lookup (x, some ("__init__" : Str)) with
        | some e => makE x e args kws fs
        | none => bltE x args kws fs
  else dErr
def isMl (o : Option (Option D)) : Bool := match o with
  | some (some (.ml _)) => true
  | _ => false
def appO (i : Nat) (d : D) (o : Option (Option D)) (ss : Sl) : R Vx := match o with
  | some (some (.ml ds)) => if ds.length < sizeLine then .ok (.val .non) (ss.set i (some (.ml (ds ++ [d])))) else .err
  | _ => .err
def appT (i : Nat) (o : Option (List D × Sl)) : R Vx := match o with
  | some ([d], s) => appO i d s[i]? s
  | _ => .err
def appendX (i : Nat) (ys : List Vx) (ss : Sl) : R Vx := appT i (takeL ys ss)
def dAppend (i : Nat) (f : EV) : EV := fun ss => if isMl ss[i]? = true then (foldA [f] ss).bind (appendX i) else .err
/-- the methods of one name -/
def candM (fn : List (FKey × FnE)) (m : Str) : List (FKey × FnE) := fn.filter fun p => decide (p.1.2 = some m)
theorem candM_get {c m : Str} {e : FnE} : ∀ {fn : List (FKey × FnE)}, (candM fn m).lookup (c, some m) = some e → fn.lookup (c, some m) = some e
  | [], h => by cases h
  | (k, e0) :: r, h => by
    unfold candM at h
    rw [List.filter_cons] at h
    rw [List.lookup_cons]
    split at h
    · rw [List.lookup_cons] at h
      split at h
      · exact h
      · exact candM_get h
    · rename_i q
      have ne : ((c, some m) == k) = false := by
        cases z : ((c, some m) == k) with
        | false => rfl
        | true =>
          have z := eq_of_beq z
          subst z
          simp at q
      rw [ne]
      exact candM_get h
def okBase : Expr → Bool
  | .Name _ _ => true
  | .Attribute _ _ _ => true
  | .Subscript _ _ _ => true
  | .Call (.Attribute _ _ _) _ _ _ => true
  | .Call (.Name _ _) (_ :: _) _ _ => true
  | _ => false
def appE (C : Cc) (v : Expr) (ap cp : Pos) (args : List Expr) (fs : List EV) : EV := match v, args, fs with
  | .Name o _, [e], [g] => match C.slot o with
    | some i => if okName o = true ∧ notStar e = true ∧ (ap.endLine == cp.line) = true then dAppend i (dFrz g) else dErr
    | none => dErr
  | .Attribute (.Name o _) f _, [e], [g] => match C.slot o with
    | some i => if okName o = true ∧ notStar e = true ∧ (ap.endLine == cp.line) = true then dAppF C.fld i f (dFrz g) else dErr
    | none => dErr
  | _, _, _ => dErr
def popE (C : Cc) (v : Expr) (ap cp : Pos) (args : List Expr) : EV := match v, args with
  | .Name o _, [] => match C.slot o with
    | some i => if okName o = true ∧ (ap.endLine == cp.line) = true then dPop i else dErr
    | none => dErr
  | .Attribute (.Name o _) f _, [] => match C.slot o with
    | some i => if okName o = true ∧ (ap.endLine == cp.line) = true then dPopF C.fld i f else dErr
    | none => dErr
  | _, _ => dErr
def methE (C : Cc) (v : Expr) (m : Str) (ap cp : Pos) (args : List Expr) (kws : List Keyword) (f : EV) (fs : List EV) : EV := match kws with
  | [] => if m = "append" then appE C v ap cp args fs else if m = "pop" then popE C v ap cp args
    else if okBase v = true ∧ args.all notStar = true ∧ m ≠ "__init__" ∧ (C.hot = true → args ≠ []) ∧ args.length < 30 ∧ (ap.endLine == cp.line) = true then dMeth C.hot (candM C.fn m) m f (frzArgs args fs) else dErr
  | _ :: _ => dErr
def xfX (a dx : Nat) (c f : Str) (x : Vx) (ss : Sl) : R Vx := match x with
  | .val (.exo a' dx' c' ns ds) => if a' = a ∧ dx' = dx ∧ c' = c then match (ns.zip ds).lookup f with
      | some d => if d.pure = true then .ok (.val d) ss else .err
      | none => .err
    else .err
  | _ => .err
def dXf (a dx : Nat) (c f : Str) (g : EV) : EV := fun ss => (g ss).bind (xfX a dx c f)
def attF (m : List (Str × Str)) (a dx : Nat) (c f : Str) (g : EV) : EV := match m.lookup c with
  | some fld => if f = fld then dXf a dx c f g else dErr
  | none => dErr
def attE (C : Cc) (v : Expr) (f : Str) (g : EV) : EV := match C.ex, v with
  | some (a, dx, c), .Name n _ => attF C.exc a dx c f (dName C n)
  | none, _ => if okBase v = true then dFld C.fld f g else dErr
  | _, _ => dErr
abbrev ET := EV × TV × IV
def dErrI : IV := fun _ => .err
def E1 (f : EV) : ET := (f, dTr f, dSeqIt (dFrz f))
def Cc.stS (C : Cc) (x : Str) : Option Nat := match C.st.names.lookup x with
  | some .local => C.N.findIdx? fun y => decide (y = x)
  | some .cell => C.N.findIdx? fun y => decide (y = x)
  | _ => none
def namesOf (C : Cc) : List Expr → Option (List Nat)
  | [] => some []
  | .Name x _ :: es => match C.stS x, namesOf C es with
    | some i, some is => some (i :: is)
    | _, _ => none
  | _ => none
def orTn (a : Option (List Nat)) (b : Option (List Tg)) : Option Tg := match a with
  | some is => some (.tp is)
  | none => b.map .tn
mutual
def tgOf (C : Cc) : Expr → Option Tg
  | .Name x _ => (C.stS x).map .nm
  | .Tuple es _ _ => if C.hot = true then none else orTn (namesOf C es) (tgsOf C es)
  | _ => none
def tgsOf (C : Cc) : List Expr → Option (List Tg)
  | [] => some []
  | e :: es => match tgOf C e, tgsOf C es with
    | some t, some ts => some (t :: ts)
    | _, _ => none
end
def isTupE : Expr → Bool
  | .Tuple _ _ _ => true
  | _ => false
def isSetE : Expr → Bool
  | .Set _ _ _ => true
  | _ => false
/-- its items are tuples that are let go: the target must be a tuple -/
def needT : Expr → Bool
  | .Call (.Name x _) _ _ _ => decide (x = "enumerate") || decide (x = "zip")
  | _ => false
def callI (C : Cc) (x : Str) (args : List Expr) (kws : List Keyword) (fs : List EV) (f : EV) : IV :=
  if x = "range" ∨ x = "reversed" ∨ x = "enumerate" ∨ x = "zip" then
    if C.glob x = true ∧ args.all notStar = true then match args, fs, kws with
      | [_], [a], [] => if x = "range" then dRng (foldA [a]) else if x = "reversed" then dRevIt a else if x = "enumerate" then dEnum (foldA [dFrz a]) else dErrI
      | [_, _], [a, b], [] => if x = "range" then dRng (foldA [a, b]) else if x = "zip" then dZip (foldA [dFrz a, dFrz b]) else dErrI
      | _, _, _ => dErrI
    else dErrI
  else dSeqIt (dFrz f)
def ownOf (N : List Str) (scope : Scope) : List (Str × Nat) := scope.names.filterMap fun p => match p.2 with
  | .local => (N.findIdx? fun y => decide (y = p.1)).map fun i => (p.1, i)
  | .cell => (N.findIdx? fun y => decide (y = p.1)).map fun i => (p.1, i)
  | _ => none
def Cc.blk (C : Cc) (scope : Scope) : Cc := { C with sc := relS scope C.sc, st := scope, ex := none }
def dYes : TV := fun ss => .ok true ss
noncomputable def lcE (C : Cc) (tg it : Expr) (a : Int) (scope : Scope) (f : IV) (tt : TV) (te : EV) : EV :=
  if C.hot = false ∧ a = 0 ∧ blkC C.N C.sc scope (ownOf C.N scope) = true ∧ isSetE it = false ∧ (needT it = true → isTupE tg = true) then match tgOf (C.blk scope) tg with
    | some t => dLc f t tt (dFrz te) ((ownOf C.N scope).map (·.2))
    | none => dErr
  else dErr

noncomputable def lcM (C : Cc) (tg it : Expr) (a : Int) (scope : Scope) (tt : TV) (te : EV) : EV := match tg, it with
  | .Name y _, .Name x _ => match C.slot x, (C.blk scope).stS y with
    | some j, some i => if okName x = true ∧ C.hot = false ∧ a = 0 ∧ blkC C.N C.sc scope (ownOf C.N scope) = true then dLcM j i tt (dFrz te) ((ownOf C.N scope).map (·.2)) else dErr
    | _, _ => dErr
  | _, _ => dErr

mutual
noncomputable def dn (C : Cc) : Expr → ET
  | .Name x _ => E1 (dName C x)
  | .Constant c _ _ => E1 (dConst c)
  | .BinOp a op b _ => E1 (d2 (binD op) (dn C a).1 (dn C b).1)
  | .UnaryOp op a _ => match op with
    | .Not => (dNotE (dn C a).1, dNotT (dn C a).2.1, dErrI)
    | .USub => E1 (d1 negD (dn C a).1)
    | _ => E1 dErr
  | .BoolOp op es _ => (boolE op ((dnL C es).map (·.1)), boolT op ((dnL C es).map (·.2.1)), dSeqIt (dFrz (boolE op ((dnL C es).map (·.1)))))
  | .Compare a ops bs _ => (cmpE ops bs (dn C a).1 ((dnL C bs).map (·.1)), dTB (cmpE ops bs (dn C a).1 ((dnL C bs).map (·.1))), dErrI)
  | .IfExp t a b _ => (dIfE (dn C t).2.1 (dn C a).1 (dn C b).1, dErrT, dSeqIt (dFrz (dIfE (dn C t).2.1 (dn C a).1 (dn C b).1)))
  | .Tuple es _ _ => E1 (if es.all notStar = true then dTup (foldA ((dnL C es).map fun p => dFrz p.1)) else dErr)
  | .List es _ => E1 (if es.all notStar = true then dLst (foldA ((dnL C es).map fun p => dFrz p.1)) else dErr)
  | .Subscript a b _ => match b with
    | .Slice lo hi none _ => E1 (dSl (dn C a).1 (dnO C lo) (dnO C hi))
    | .Slice lo hi (some st) _ => E1 (dSlSt (dn C a).1 (dnO C lo) (dnO C hi) (dPart (dn C st).1))
    | b => E1 (if isSlice b = true then dErr else d2 ixD (dn C a).1 (dn C b).1)
  | .Call f args kws cp => match f with
    | .Name x _ => (callE C x args kws ((dnL C args).map (·.1)) ((dnK C kws).map (·.1)), dTr (callE C x args kws ((dnL C args).map (·.1)) ((dnK C kws).map (·.1))), callI C x args kws ((dnL C args).map (·.1)) (callE C x args kws ((dnL C args).map (·.1)) ((dnK C kws).map (·.1))))
    | .Attribute v m ap => E1 (methE C v m ap cp args kws (dn C v).1 ((dnL C args).map (·.1)))
    | _ => E1 dErr
  | .Attribute v f _ => E1 (attE C v f (dn C v).1)
  | .ListComp elt gs scope lp => match gs with
    | [⟨tg, it, [], a⟩] => E1 (lcE C tg it a scope (dn C it).2.2 dYes (dn (C.blk scope) elt).1)
    | [⟨tg, it, [c], a⟩] => E1 (if C.hn.lcm.contains lp.line = true then lcM C tg it a scope (dn (C.blk scope) c).2.1 (dn (C.blk scope) elt).1 else lcE C tg it a scope (dn C it).2.2 (dn (C.blk scope) c).2.1 (dn (C.blk scope) elt).1)
    | _ => E1 dErr
  | _ => (dErr, dErrT, dErrI)
noncomputable def dnL (C : Cc) : List Expr → List ET
  | [] => []
  | e :: es => dn C e :: dnL C es
noncomputable def dnO (C : Cc) : Option Expr → OV
  | none => dNoP
  | some e => dPart (dn C e).1
noncomputable def dnK (C : Cc) : List Keyword → List ET
  | [] => []
  | ⟨_, e, _⟩ :: ks => dn C e :: dnK C ks
end

/-! ### the module behind the context -/
def AtOk (K : PySem.W.Frag) (mg : Str → Option Value) (p : FKey) (f : Addr) : Prop := match p.2 with
  | none => mg p.1 = some (.ref f)
  | some m => mg p.1 = some (.ref (He.ga K p.1)) ∧ Cls K (He.ga K p.1) ∧ if m = "__init__" then Mk K (He.ga K p.1) f else Meth K (He.ga K p.1) m f
structure FnG (C : Cc) (X : Cx) (p : FKey) (e : FnE) (f : Addr) (fd : FuncData) : Prop where
  mg : AtOk X.K X.mg p f
  kp : PySem.W.keepIn X.K (.ref f) = true
  bd : Binds X.K fd e.ps []
  ok : ∀ Z : ZS, FnOk X.prog X.w X.K X.mg X.base (L2N.CX X.prog X.w) C.k f fd e.ps (@spD Z X.K e.ps.length e.F)
  okh : ∀ Z : ZS, L2H.FnH X.prog X.w X.K X.mg X.base (L2N.CX X.prog X.w) C.k f fd e.ps (@spD Z X.K e.ps.length e.Fh)
  okm : p.2 = some ("__init__" : Str) → ∃ j, j + 1 ≤ C.k ∧ ∀ Z : ZS, FnOk X.prog X.w X.K X.mg X.base (L2N.CX X.prog X.w) j f fd e.ps (@spD Z X.K e.ps.length e.F)
  kb : ∀ ks, (p.1, ks) ∈ C.kw → p.2 = none → ∀ (s : Shared) (ws us : List Value), X.K.In s.heap → ws.length = ks.length → permL ks e.ps ws = some us → BindsTo s fd ⟨[], ks.zip ws⟩ (e.ps.zip us)
def lateB : List Str := ["range", "reversed", "enumerate", "zip", "super"]
structure Good (C : Cc) (X : Cx) (W : WX) : Prop where
  N : X.N = C.N
  nd : C.N.Nodup
  sc : X.env.scope = C.sc
  un : X.A.units + 200 < cLine
  tk : L2N.Takes X W
  calm : C.hot = false → X.calm = true
  room : C.hot = false → Room C.k X.A
  blt : ∀ b : Blt, X.mg b.name = none
  cls : ∀ c : Cl, X.mg c.sn = none
  isi : X.mg "isinstance" = none
  nob : ∀ x ∈ lateB, X.mg x = none
  fnl : ∀ x, L2.Loc C.st x → L2.Loc X.env.scope x ∧ (X.fn x = true ∨ X.env.scope.names.lookup x = some .local)
  hotc : C.hot = true → L2H.HotC X
  roomh : C.hot = true → L2H.RoomH C.k X.A
  fns : ∀ x e, C.fn.lookup x = some e → ∃ f fd, FnG C X x e f fd
  flo : FlOk X.K C.fld
  cst : ∀ x d, C.cst.lookup x = some d → ∃ u v, X.mg x = some u ∧ RelV v u ∧ flatD d = some v
  exs : ∀ x fld, C.exc.lookup x = some fld → X.mg x = some (.ref (He.ga X.K x)) ∧ (∃ fI, Dx.SxC X.prog X.K (He.ga X.K x) fI fld) ∧ XfC X.K (He.ga X.K x)
  exo : ∀ a dx c, C.ex = some (a, dx, c) → ∃ (X0 : Cx) (oe : Obj) (pn : List (Addr × Obj)), X = X0.suite a ((a, oe) :: pn) ∧ L2N.Zn (.ref (He.ga X.K c)) (some dx) oe ∧ ∃ vs, oe.data = .fields vs
  isq : ∀ x y b, C.isx.lookup (x, y) = some b → (if y = "ValueError" then X.mg y = none else X.mg y = some (.ref (He.ga X.K y))) ∧ XfC X.K (He.ga X.K x) ∧ IsC X.K (He.ga X.K x) ∧ PySem.W.kitOne X.K (.ref (He.ga X.K x)) (cvU X.K y) = some b
  exq : ∀ x y b, C.exm.lookup (x, y) = some b → X.mg y = some (.ref (He.ga X.K y)) ∧ PySem.W.exmOne X.K (.ref (He.ga X.K x)) (.ref (He.ga X.K y)) = some b

section
variable {X : Cx} {W : WX} {C : Cc}
theorem _root_.L2.PE.impD {e : Expr} {t t' : TE} (h : PE X e t) (i : ∀ σ H Q, t' σ H Q → t σ H Q) : PE X e t' := ⟨fun pins s σ H Q I hw => h.run pins s σ H Q I (i σ H Q hw)⟩
theorem _root_.L2.PT.impD {e : Expr} {t t' : TT} (h : PT X e t) (i : ∀ σ H Q, t' σ H Q → t σ H Q) : PT X e t' := ⟨fun pins s σ H Q I hw => h.run pins s σ H Q I (i σ H Q hw)⟩
theorem _root_.L2.PW.impD {e : Expr} {t t' : TT} (h : PW X e t) (i : ∀ σ H Q, t' σ H Q → t σ H Q) : PW X e t' := ⟨fun wh pins s σ H Q I hw => h.run wh pins s σ H Q I (i σ H Q hw)⟩
theorem _root_.L2.PA.impD {es : List Expr} {t t' : TA} (h : PA X es t) (i : ∀ σ H Q, t' σ H Q → t σ H Q) : PA X es t' := ⟨fun pos pins s σ H Q I hw => h.run pos pins s σ H Q I (i σ H Q hw)⟩
theorem pe_err {e : Expr} : PE X e (tE X.K W dErr) := ⟨fun pins s σ H Q I h => by obtain ⟨_, _, _, h⟩ := h; exact h.elim⟩
theorem pt_err {e : Expr} : PT X e (tT X.K W dErrT) := ⟨fun pins s σ H Q I h => by obtain ⟨_, _, _, h⟩ := h; exact h.elim⟩
theorem pt_trErr {e : Expr} : PT X e (tT X.K W (dTr dErr)) := ⟨fun pins s σ H Q I h => by obtain ⟨_, _, _, h⟩ := h; exact h.elim⟩
theorem slot_vis (G : Good C X W) {x : Str} {i : Nat} (h : C.slot x = some i) : X.N[i]? = some x ∧ Vis X.env.scope x := by
  have fnd : ∀ {i : Nat}, C.N.findIdx? (fun y => decide (y = x)) = some i → X.N[i]? = some x := fun {i} q => by
    rw [List.findIdx?_eq_some_iff_getElem] at q
    obtain ⟨h1, h2, _⟩ := q
    rw [G.N]
    have : C.N[i] = x := by simpa using h2
    rw [List.getElem?_eq_getElem h1, this]
  unfold Cc.slot at h
  unfold Vis
  rw [G.sc]
  split at h
  · exact ⟨fnd h, .inl ‹_›⟩
  · exact ⟨fnd h, .inr (.inl ‹_›)⟩
  · exact ⟨fnd h, .inr (.inr ‹_›)⟩
  · cases h
theorem glob_gl (G : Good C X W) {x : Str} (h : C.glob x = true) : Gl X x ∧ (x == ("__debug__" : Str)) = false := by
  unfold Cc.glob at h
  split at h
  · refine ⟨?_, by simpa using h⟩
    show X.env.scope.names.lookup x = some .globalImplicit
    rw [G.sc]; assumption
  · cases h
theorem okName_spec {x : Str} (h : okName x = true) : (x == ("__debug__" : Str)) = false ∧ (x == ("__classdict__" : Str)) = false := by
  unfold okName at h
  obtain ⟨h1, h2⟩ := Bool.and_eq_true_iff.mp h
  exact ⟨by simpa using h1, by simpa using h2⟩
theorem pe_nameD (G : Good C X W) {x : Str} {pos : Pos} : PE X (.Name x pos) (tE X.K W (dName C x)) := by
  unfold dName
  split
  · rename_i ok
    obtain ⟨k1, k2⟩ := okName_spec ok
    split
    · rename_i i e
      obtain ⟨h1, h2⟩ := slot_vis G e
      exact (pe_var h1 h2 k1 k2).impD fun _ _ _ h => s_var h
    · split
      · rename_i g
        split
        · rename_i d e
          obtain ⟨u, v, h1, h2, h3⟩ := G.cst x d e
          obtain ⟨g1, g2⟩ := glob_gl G g
          exact (pe_glob g1 h1 h2 g2).impD fun _ _ _ h => s_cst h3 h
        · exact pe_err
      · exact pe_err
  · exact pe_err
theorem pe_constD {c : Const} {k : Nat} {pos : Pos} : PE X (.Constant c k pos) (tE X.K W (dConst c)) := by
  cases c with
  | none => exact pe_non.impD fun _ _ _ h => s_cst rfl h
  | bool b => exact pe_bl.impD fun _ _ _ h => s_cst rfl h
  | int i => exact pe_int.impD fun _ _ _ h => s_cst rfl h
  | str s => exact pe_str.impD fun _ _ _ h => s_cst rfl h
  | _ => exact pe_err
theorem star_cons {e : Expr} {es : List Expr} {env : Env} (h : notStar e = true) : starEach (e :: es) env = (false, eval e env) :: starEach es env := by
  cases e <;> first | rfl | cases h
theorem star_plain {pos : Pos} {env : Env} : ∀ {es : List Expr}, es.all notStar = true → (backTo pos (starEach es env)).any (·.1) = false
  | [], _ => rfl
  | e :: es, h => by
    obtain ⟨h1, h2⟩ := Bool.and_eq_true_iff.mp (show (notStar e && es.all notStar) = true from h)
    rw [star_cons h1]
    show (false || (backTo pos (starEach es env)).any (·.1)) = false
    rw [star_plain h2]; rfl
theorem all_cons {e : Expr} {es : List Expr} (h : (e :: es).all notStar = true) : notStar e = true ∧ es.all notStar = true := Bool.and_eq_true_iff.mp (show (notStar e && es.all notStar) = true from h)
/-- a row of expressions and their denotations -/
def AllE (X : Cx) (W : WX) : List Expr → List EV → Prop
  | [], [] => True
  | e :: es, f :: fs => PE X e (tE X.K W f) ∧ AllE X W es fs
  | _, _ => False
theorem pa_all : ∀ {es : List Expr} {fs : List EV}, AllE X W es fs → es.all notStar = true → PA X es (tA X.K W (foldA fs))
  | [], [], _, _ => pa_nil.impD fun _ _ _ h => s_nil h
  | e :: es, f :: fs, a, h => by
    obtain ⟨h1, h2⟩ := all_cons h
    exact (pa_cons a.1 (pa_all a.2 h2) (star_cons h1)).impD fun _ _ _ h => s_cons h
theorem pe_frzD {e : Expr} {f : EV} (h : PE X e (tE X.K W f)) : PE X e (tE X.K W (dFrz f)) := (pe_frz h).impD fun _ _ _ h => s_frz h
theorem pe_frzArg {e : Expr} {f : EV} (h : PE X e (tE X.K W f)) : PE X e (tE X.K W (frzArg e f)) := by
  unfold frzArg
  split
  · exact pe_frzD h
  · exact pe_frzD h
  · exact pe_frzD h
  · exact pe_frzD h
  · exact h
theorem all_frzArgs : ∀ {es : List Expr} {fs : List EV}, AllE X W es fs → AllE X W es (frzArgs es fs)
  | [], [], a => a
  | e :: es, f :: fs, a => ⟨pe_frzArg a.1, all_frzArgs a.2⟩
theorem all_frz : ∀ {es : List Expr} {fs : List EV}, AllE X W es fs → AllE X W es (fs.map dFrz)
  | [], [], a => a
  | e :: es, f :: fs, a => ⟨pe_frzD a.1, all_frz a.2⟩
theorem un_neg1 {f : EV} {σ : St} {H : Hp} {Q : VK} (h : tE X.K W (d1 negD f) σ H Q) : tUn (rU fun i => .int (-i)) (tE X.K W f) σ H Q := by
  obtain ⟨ss, Af, rp, h⟩ := h
  refine bindW rp h fun x v H1 s1 Af1 B1 e1 r1 l1 n1 d1 st1 h => ?_
  unfold op1 at h
  split at h
  · rename_i a g
    obtain ⟨A, l⟩ := l1.read r1 g
    cases a with
    | int i => exact ⟨i, l.1, (Wn.fn r1 h).val rfl⟩
    | _ => exact h.elim
  · exact h.elim
/-! ### and, or -/
theorem pe_boolD {op : BoolOp} {pos : Pos} : ∀ {es : List Expr} {fs : List EV}, AllE X W es fs → PE X (.BoolOp op es pos) (tE X.K W (boolE op fs))
  | [], [], _ => pe_err
  | [e], [f], a => by exact (pe_one (op := op) a.1)
  | e :: e' :: es, f :: f' :: fs, a => by
    have ih := pe_boolD (op := op) (pos := pos) (es := e' :: es) (fs := f' :: fs) a.2
    cases op with
    | And => exact (pe_and a.1 ih).impD fun _ _ _ h => s_andE h
    | Or => exact (pe_or a.1 ih).impD fun _ _ _ h => s_orE h
def AllT (X : Cx) (W : WX) : List Expr → List TV → Prop
  | [], [] => True
  | e :: es, f :: fs => PT X e (tT X.K W f) ∧ AllT X W es fs
  | _, _ => False
theorem pw_boolD {op : BoolOp} {pos : Pos} : ∀ {es : List Expr} {fs : List TV}, AllT X W es fs → PW X (.BoolOp op es pos) (tT X.K W (boolT op fs))
  | [], [], _ => ⟨fun wh pins s σ H Q I h => by obtain ⟨_, _, _, h⟩ := h; exact h.elim⟩
  | [e], [f], a => by
    cases op with
    | And => exact pw_and1 a.1
    | Or => exact pw_or1 a.1
  | e :: e' :: es, f :: f' :: fs, a => by
    have ih := pw_boolD (op := op) (pos := pos) (es := e' :: es) (fs := f' :: fs) a.2
    cases op with
    | And => exact (pw_and a.1 ih).impD fun _ _ _ h => s_and h
    | Or => exact (pw_or a.1 ih).impD fun _ _ _ h => s_or h
/-! ### comparisons -/
theorem pe_cmpD (G : Good C X W) {a : Expr} {fa : EV} {ops : List CmpOp} {bs : List Expr} {fs : List EV} {pos : Pos} (ha : PE X a (tE X.K W fa)) (hb : AllE X W bs fs) :
    PE X (.Compare a ops bs pos) (tE X.K W (cmpE ops bs fa fs)) ∧ PT X (.Compare a ops bs pos) (tT X.K W (dTB (cmpE ops bs fa fs))) := by
  have hu : X.A.units + 64 < cLine := by have := G.un; omega
  have ptErr : PT X (.Compare a ops bs pos) (tT X.K W (dTB dErr)) := ⟨fun pins s σ H Q I h => by obtain ⟨_, _, _, h⟩ := h; exact h.elim⟩
  unfold cmpE
  split
  · rename_i o b f
    split
    · rename_i hm
      exact ⟨(pe_cmpR (op_cmpA hu o) ha hb.1 hm).impD fun _ _ _ h => s_two (ops_cmp o) h,
        (pt_cmpR (op_cmpA hu o) ha hb.1 hm).impD fun σ H Q h => by
          obtain ⟨ss, Af, r, h⟩ := h
          refine s_two (ops_cmp o) (W := W) ?_
          exact s_tb ⟨ss, Af, r, h⟩⟩
    · exact ⟨pe_err, ptErr⟩
  · rename_i o1 o2 b c f g
    split
    · rename_i hm
      exact ⟨(pe_chain (op_cmpA hu o1) (op_cmpA hu o2) ha hb.1 hb.2.1 hm).impD fun _ _ _ h => s_chain h,
        (pt_chain (op_cmpA hu o1) (op_cmpA hu o2) ha hb.1 hb.2.1 hm).impD fun σ H Q h => s_chain (W := W) (s_tb h)⟩
    · exact ⟨pe_err, ptErr⟩
  · exact ⟨pe_err, ptErr⟩
end
end Dn

set_option Elab.async false
set_option linter.all false
set_option maxRecDepth 100000
set_option maxHeartbeats 4000000
/-! Dn8: calls, methods; the theorem of expressions. -/
namespace Dn
open PySem L2
variable [ZS]

section
variable {K : PySem.W.Frag} {H H' : Hp} {ss : Sl} {σ : St} {Af : Nat → List Addr}
theorem isMl_spec {o : Option (Option D)} (h : isMl o = true) : ∃ ds, o = some (some (.ml ds)) := by
  unfold isMl at h
  split at h
  · exact ⟨_, rfl⟩
  · cases h
theorem s_append {W : WX} {Q : VK} {i : Nat} {f : EV} (h : tE K W (dAppend i f) σ H Q) : tBM K "list" rAppend (tVar i) (tA K W (foldA [f])) σ H Q := by
  obtain ⟨ss, Af, rp, h⟩ := h
  unfold dAppend at h
  split at h
  rotate_left
  · exact h.elim
  rename_i c
  obtain ⟨ds0, c⟩ := isMl_spec c
  obtain ⟨v, h1, l, vs0, B0, e1, h2, h3, h4⟩ := rp.lay i _ c
  subst e1
  refine ⟨.ref l, h1, .inl ⟨rfl, vs0, SqL.of h2⟩, ?_⟩
  refine bindB Stp.refl (fun _ z => z) rp h fun xs ws H1 s1 Af1 B1 e1 r1 l1 n1 d1 st1 h => ?_
  unfold appendX appT at h
  split at h
  rotate_left
  · exact h.elim
  rename_i d s2 q
  obtain ⟨Af2, B2, r2, l2, m1, m2, m3, m4⟩ := take_ok r1 l1 n1 d1 q
  unfold appO at h
  split at h
  rotate_left
  · exact h.elim
  rename_i ds e
  split at h
  rotate_left
  · exact h.elim
  rename_i p2
  obtain ⟨w, us, C1, C2, z1, z2, z3, z4, z5⟩ := l2
  subst z5; subst z4; subst z1
  rw [List.append_nil] at z2
  subst z2
  obtain ⟨v', q1, m, vs, B, q2, q3, q4, q5⟩ := r2.lay i _ e
  rw [h1] at q1; cases q1
  cases q2
  have hi : i < s2.length := (List.getElem?_eq_some_iff.mp e).1
  have hnd : (l :: B).Nodup := by rw [← q5]; exact r2.nd i
  obtain ⟨lB, nB⟩ := List.nodup_cons.mp hnd
  have lo : Own Af2 l := ⟨i, by rw [q5]; exact List.mem_cons_self⟩
  have lB2 : l ∉ B2 := fun z => m2 l z lo
  have hz : ∀ a ∈ B2, ¬ ZS.z a := fun a ha => (m4 a ha).elim (fun z => r1.nz a z) fun z => rp.nzS st1 (.inr z)
  have st : Stp H1 (fun b => b ∈ Af2 i ∨ b ∈ B2) (upd H1 l (.lst (vs ++ [w]))) (fun b => b ∈ l :: (B ++ B2)) := by
    refine (Stp.wrote (H := H1) (F := fun b => b ∈ Af2 i ∨ b ∈ B2) (o := .lst (vs ++ [w])) (.inl (by rw [q5]; exact List.mem_cons_self)) q3 (.inl ⟨_, rfl⟩) (r2.nz l lo)).sub fun b hb => ?_
    rw [q5]
    rcases List.mem_cons.mp hb with z | z
    · exact .inl (List.mem_cons.mpr (.inl z))
    · exact (List.mem_append.mp z).imp (List.mem_cons_of_mem _) id
  have keep : ∀ b, b ≠ l → ∀ o, H1 b = some o → upd H1 l (.lst (vs ++ [w])) b = some o := fun b n o eo => by rw [upd_ne n]; exact eo
  have lay : Lay K (upd H1 l (.lst (vs ++ [w]))) (.ml (ds ++ [d])) (.ref l) (l :: (B ++ B2)) := by
    refine ⟨l, vs ++ [w], B ++ B2, rfl, upd_same, ?_, rfl⟩
    have a1 : LayL K (upd H1 l (.lst (vs ++ [w]))) ds vs B := LayL.step st.kp ds vs B (fun a ha o eo => keep a (fun z => by subst z; exact lB ha) o eo) q4
    have a2 := LayL.append a1 (LayL.cons (Lay.step st.kp d w B2 (fun a ha o eo => keep a (fun z => by subst z; exact lB2 ha) o eo) z3) LayL.nil)
    rw [List.append_nil] at a2
    exact a2
  have hnd2 : (l :: (B ++ B2)).Nodup := List.nodup_cons.mpr ⟨fun z => (List.mem_append.mp z).elim lB lB2, List.nodup_append.mpr ⟨nB, m1, fun a ha b hb z => by
    subst z
    exact m2 a hb ⟨i, by rw [q5]; exact List.mem_cons_of_mem _ ha⟩⟩⟩
  obtain ⟨rw', sw⟩ := r2.put m2 hz hi h1 st lay hnd2
  refine ⟨l, vs, w, rfl, rfl, q3, by rw [LayL.len q4]; exact p2, ?_⟩
  refine h _ _ ⟨Dn.put Af2 i (l :: (B ++ B2)), [], rw', ⟨rfl, rfl⟩, List.nodup_nil, fun a ha => (nomatch ha), ?_⟩
  have s12 : Stp H (Own Af) H1 (fun b => Own Af2 b ∨ b ∈ B2) := st1.sub fun b hb => hb.elim (fun z => .inl (m3 b z)) fun z => m4 b z
  exact (s12.trans sw fun _ z => z).sub fun b hb => hb.elim id fun z => nomatch z
end

section
variable {X : Cx} {W : WX} {C : Cc}
theorem pe_callS0 {CX : CXT} {k : Nat} {f : Addr} {fd : FuncData} {ps : List Str} {sp : Sp} {E : St → XK} {x : Str} {p pos : Pos} (F : FnOk X.prog X.w X.K X.mg X.base CX k f fd ps sp) (hr : Room k X.A) (hg : Gl X x) (hm : X.mg x = some (.ref f))
    (hk : PySem.W.keepIn X.K (.ref f) = true) (hb : Binds X.K fd ps []) (hx : ∀ σ, PassesAt CX X σ (E σ)) (hdb : (x == ("__debug__" : Str)) = false) : PE X (.Call (.Name x p) [] [] pos) (tCallS sp E tNil) := by
  refine ⟨fun pins s σ H Q I h => ?_⟩
  refine wpAny_Call_Name_kw (ld_glob I hg hm ?_ hdb)
  exact PySem.W.callWith_K0 I.kIn hk (run_fnS (us := []) F hr hb (hx σ) I .nil h)
theorem kw_facts {pos : Pos} {env : Env} : ∀ {kws : List Keyword} {nm : List Str}, kwNames kws = some nm → (backToKw pos (keywordEach kws env)).all (·.1.isSome) = true ∧ (backToKw pos (keywordEach kws env)).filterMap (·.1) = nm ∧ (backToKw pos (keywordEach kws env)).any (·.1.isNone) = false
  | [], nm, h => by cases h; exact ⟨rfl, rfl, rfl⟩
  | ⟨none, e, p⟩ :: kws, nm, h => by
    unfold kwNames at h
    simp at h
  | ⟨some a, e, p⟩ :: kws, nm, h => by
    cases q : kwNames kws with
    | none =>
      unfold kwNames at h q
      rw [List.mapM_cons, q] at h
      simp at h
    | some nm' =>
      have e1 : nm = a :: nm' := by
        unfold kwNames at h q
        rw [List.mapM_cons, q] at h
        simpa using h.symm
      obtain ⟨h1, h2, h3⟩ := kw_facts (pos := pos) (env := env) q
      subst e1
      refine ⟨?_, ?_, ?_⟩
      · show (true && (backToKw pos (keywordEach kws env)).all (·.1.isSome)) = true
        rw [h1]; rfl
      · show List.filterMap (fun x : Option Str × Sem Value => x.1) ((some a, _) :: backToKw pos (keywordEach kws env)) = _
        rw [List.filterMap_cons]
        show a :: _ = _
        rw [h2]
      · show (false || (backToKw pos (keywordEach kws env)).any (·.1.isNone)) = false
        rw [h3]; rfl
def AllK (X : Cx) (W : WX) : List Keyword → List EV → Prop
  | [], [] => True
  | ⟨_, e, _⟩ :: es, f :: fs => PE X e (tE X.K W f) ∧ AllK X W es fs
  | _, _ => False
theorem pk_all : ∀ {kws : List Keyword} {fs : List EV}, AllK X W kws fs → PK X kws (tA X.K W (foldA fs))
  | [], [], _ => ⟨fun pos pins s σ H Q I h => pk_nil.run pos pins s σ H Q I (s_nil h)⟩
  | ⟨nm, e, p⟩ :: kws, f :: fs, a => ⟨fun pos pins s σ H Q I h => (pk_cons a.1 (pk_all a.2)).run pos pins s σ H Q I (s_cons h)⟩
theorem allK_frz : ∀ {es : List Keyword} {fs : List EV}, AllK X W es fs → AllK X W es (fs.map dFrz)
  | [], [], a => a
  | ⟨_, _, _⟩ :: es, f :: fs, a => ⟨pe_frzD a.1, allK_frz a.2⟩
theorem pe_callKS0 {k : Nat} {f : Addr} {fd : FuncData} {ps ks : List Str} {sp : Sp} {x : Str} {p pos : Pos} {kws : List Keyword} {t : TA} (F : FnOk X.prog X.w X.K X.mg X.base (L2N.CX X.prog X.w) k f fd ps sp) (tk : L2N.Takes X W) (hr : Room k X.A) (hg : Gl X x) (hm : X.mg x = some (.ref f))
    (hk : PySem.W.keepIn X.K (.ref f) = true) (hb : ∀ (s : Shared) (ws us : List Value), X.K.In s.heap → ws.length = ks.length → permL ks ps ws = some us → BindsTo s fd ⟨[], ks.zip ws⟩ (ps.zip us))
    (hkw : PK X kws t) (hn : kwNames kws = some ks) (hdb : (x == ("__debug__" : Str)) = false) : PE X (.Call (.Name x p) [] kws pos) (tCallKS ks ps sp (WE W) t) := by
  refine ⟨fun pins s σ H Q I h => ?_⟩
  refine wpAny_Call_Name_kw (ld_glob I hg hm ?_ hdb)
  obtain ⟨k1, k2, k3⟩ := kw_facts (pos := pos) (env := X.env) hn
  refine PySem.W.callWith_KW0 (h₀ := X.base) I.ok.mod.kin hk k1 (thn (hkw.run pos pins s σ H _ I h) fun ws s1 ⟨zs, H1, I1, rz, hzl, vs, e1, q⟩ => ⟨I1.kIn, ?_⟩) (by rw [k3, Bool.or_false]; rfl)
  rw [k2]
  obtain ⟨us, e2, r2⟩ := permL_vals rz e1
  have hl : zs.length = ws.length := rz.length
  have hlw : ws.length = ks.length := by omega
  refine wpAny_call (codeAny_mono (F.run X.A X.stack s1 H1 ⟨[] ++ [], ks.zip ws⟩ us vs Q (WE W σ) hr I1.env0 (hb s1 ws us I1.kIn hlw e2) r2 q) fun r s' hq => ?_)
  cases r with
  | error e => exact L2N.passAt tk σ pins H1 s1 e s' I1 hq
  | ok fl =>
    cases fl with
    | ret u => exact I1.after hq
    | next => exact False.elim hq
    | brk => exact False.elim hq
    | cont => exact False.elim hq
/-! ### methods, making: an exception's way out knows the slots -/
/-- how a method's call is evaluated -/
def methTree (v : Expr) (m : Str) (cp : Pos) (ap : Pos) (es : List Expr) (env : Env) : Sem Value := do
  let w0 ← eval v env
  standAt ap.atName
  let (g0, hd) ← holding [w0] (getMethod w0 m (plainOf v env))
  callWith cp g0 hd (backTo cp (starEach es env)) (backToKw cp (keywordEach [] env))
theorem star_all {cp : Pos} {env : Env} : ∀ {es : List Expr}, es.all notStar = true → (backTo cp (starEach es env)).all (fun x => !x.1) = true
  | [], _ => rfl
  | e :: es, h => by
    obtain ⟨h1, h2⟩ := all_cons h
    rw [star_cons h1]
    show (true && (backTo cp (starEach es env)).all (fun x => !x.1)) = true
    rw [star_all h2]; rfl
theorem meth_tree {v : Expr} {m : Str} {ap cp : Pos} {es : List Expr} {env : Env} (hb : attributeBase v m env (eval v env) = eval v env) (hs : es.all notStar = true) (hn : es.length < 30) (hl : (ap.endLine == cp.line) = true) :
    eval (.Call (.Attribute v m ap) es [] cp) env = methTree v m cp ap es env := by
  have hf : methodCallForm (es.length + ([] : List Keyword).length) (backTo cp (starEach es env)) (backToKw cp (keywordEach [] env)) = true := by
    unfold methodCallForm
    rw [star_all hs]
    have : (backToKw cp (keywordEach [] env)) = [] := rfl
    rw [this]
    simpa using hn
  rw [arm_eval_Call, hb]
  unfold methTree
  simp only [mcall_line hf hl]
section
variable {X : Cx} {CX : CXT} {k : Nat} {f C : Addr} {fd : FuncData} {ps : List Str} {sp : Sp} {E : St → XK} {x : Str} {q pos : Pos} {e : Expr} {es : List Expr} {t : TA}
def tMethG (C : Addr) (m : Str) (sp : Sp) (E : St → XK) (ta : TE) (t : TA) : TE := fun σ H Q => ta σ H fun x H1 => (∃ a dx fs, x = .ref a ∧ H1 a = some (.ins C dx fs) ∧ fs.lookup m = none) ∧ t σ H1 fun vs H2 => sp (x :: vs) H2 Q (E σ)
theorem pe_mS {v : Expr} {m : Str} {ap cp : Pos} {ta : TE} (hv : PE X v ta) (hc : Cls X.K C) (hm : Meth X.K C m f) (F : FnOk X.prog X.w X.K X.mg X.base CX k f fd ps sp) (hr : Room k X.A) (hb : Binds X.K fd ps []) (hx : ∀ σ, PassesAt CX X σ (E σ))
    (ha : PA X (e :: es) t) (he : starEach (e :: es) X.env = (false, eval e X.env) :: starEach es X.env) (hp : (backTo cp (starEach es X.env)).any (·.1) = false) (ht : eval (.Call (.Attribute v m ap) (e :: es) [] cp) X.env = methTree v m cp ap (e :: es) X.env) :
    PE X (.Call (.Attribute v m ap) (e :: es) [] cp) (tMethG C m sp E ta t) := ⟨fun pins s σ H Q I h => by
  refine PySem.W.methodCall_KW (pl := plainOf v X.env) (thn (hv.run pins s σ H _ I h) fun u s1 ⟨w0, H1, I1, r1, ⟨a, dx, fs, ew, ea, l⟩, z⟩ => ?_) ht
  subst ew
  cases (show u = Value.ref a from r1)
  refine getmeth_ok I1 ea hc hm l (PySem.W.callWith_K (first := [.ref a]) (h₀ := X.base) I.ok.mod.kin hm.kp (thn (ha.run cp pins s1 σ H1 _ I1 z) fun us s2 ⟨vs, H2, I2, r2, z2⟩ => ⟨I2.kIn, ?_⟩) he hp)
  exact run_fnS (us := .ref a :: us) (vs := .ref a :: vs) F hr hb (hx σ) I2 (.cons rfl r2) z2⟩
theorem pe_mS0 {v : Expr} {m : Str} {ap cp : Pos} {ta : TE} (hv : PE X v ta) (hc : Cls X.K C) (hm : Meth X.K C m f) (F : FnOk X.prog X.w X.K X.mg X.base CX k f fd ps sp) (hr : Room k X.A) (hb : Binds X.K fd ps []) (hx : ∀ σ, PassesAt CX X σ (E σ))
    (ht : eval (.Call (.Attribute v m ap) [] [] cp) X.env = methTree v m cp ap [] X.env) :
    PE X (.Call (.Attribute v m ap) [] [] cp) (tMethG C m sp E ta tNil) := ⟨fun pins s σ H Q I h => by
  refine PySem.W.methodCall_KW (pl := plainOf v X.env) (thn (hv.run pins s σ H _ I h) fun u s1 ⟨w0, H1, I1, r1, ⟨a, dx, fs, ew, ea, l⟩, z⟩ => ?_) ht
  subst ew
  cases (show u = Value.ref a from r1)
  refine getmeth_ok I1 ea hc hm l (PySem.W.callWith_K0 (first := [.ref a]) I1.kIn hm.kp ?_)
  exact run_fnS (us := [.ref a]) (vs := [.ref a]) F hr hb (hx σ) I1 (.cons rfl .nil) z⟩
/-- an instance is made; an exception's way out knows the slots -/
theorem run_mkS {pins : List (Addr × Obj)} {σ : St} {H : Hp} {s : Shared} {Q : VK} {us : List Value} {vs : List V} (M : Mk X.K C f) (F : FnOk X.prog X.w X.K X.mg X.base CX k f fd ps sp) (hr : Room (k + 1) X.A) (hb : Binds X.K fd ps []) (hx : PassesAt CX X σ (E σ)) (I : Inv X pins σ H s) (r : Vals vs us)
    (h : ∀ x dx, H x = none → H dx = none → dx ≠ x → sp (.ref x :: vs) (upd (upd H dx (.own x)) x (.ins C dx [])) (fun v H2 => v = .non ∧ Q (.ref x) H2) (E σ)) : wpAny (model X.prog X.w) X.A (call (.ref C) us) (EP X pins σ Q) X.xe s := by
  have z := h (s.heap.objs.size + 1) s.heap.objs.size (I.hok.fresh (Nat.le_succ _)) (I.hok.fresh (Nat.le_refl _)) (Nat.ne_of_lt (Nat.lt_succ_self _))
  have J := Inv.made (C := C) I
  have rr : Vals (V.ref (s.heap.objs.size + 1) :: vs) (Value.ref (s.heap.objs.size + 1) :: us) := .cons rfl r
  have hl : ((Value.ref (s.heap.objs.size + 1) :: us) ++ []).length = ps.length := by rw [List.append_nil, ← rr.length]; exact F.len _ _ _ _ z
  have hbb := hb _ (Value.ref (s.heap.objs.size + 1) :: us) J.kIn hl
  rw [List.append_nil] at hbb
  have run := F.run _ X.stack _ _ ⟨Value.ref (s.heap.objs.size + 1) :: us, []⟩ (Value.ref (s.heap.objs.size + 1) :: us) _ _ (E σ) (hr.make C us []) (J.env0.make C us []) hbb rr z
  refine wpAny_call (make_map (f := f) I.kIn M.makes M.init (beq_iff_eq.mp M.fn) (codeAny_mono run fun r s' y => ?_))
  cases r with
  | error e => exact hx pins _ _ e s' J y
  | ok fl =>
    cases fl with
    | ret u =>
      obtain ⟨v, H', I3, rv, ev, q3⟩ := J.after y
      subst ev
      exact ⟨rv, V.ref (s.heap.objs.size + 1), H', I3, rfl, q3⟩
    | _ => exact y.elim
def tMakeG (C : Addr) (sp : Sp) (E : St → XK) (t : TA) : TE := fun σ H Q => t σ H fun vs H1 => ∀ x dx, H1 x = none → H1 dx = none → dx ≠ x →
  sp (.ref x :: vs) (upd (upd H1 dx (.own x)) x (.ins C dx [])) (fun v H2 => v = .non ∧ Q (.ref x) H2) (E σ)
theorem pe_mkS (M : Mk X.K C f) (F : FnOk X.prog X.w X.K X.mg X.base CX k f fd ps sp) (hr : Room (k + 1) X.A) (hg : Gl X x) (hm : X.mg x = some (.ref C)) (hb : Binds X.K fd ps []) (hx : ∀ σ, PassesAt CX X σ (E σ)) (ha : PA X (e :: es) t) (hd : (x == ("__debug__" : Str)) = false)
    (he : starEach (e :: es) X.env = (false, eval e X.env) :: starEach es X.env) (hp : (backTo pos (starEach es X.env)).any (·.1) = false) : PE X (.Call (.Name x q) (e :: es) [] pos) (tMakeG C sp E t) := ⟨fun pins s σ H Q I h =>
  wpAny_Call_Name_kw (ld_glob I hg hm (PySem.W.callWith_K (h₀ := X.base) I.ok.mod.kin M.kp (thn (ha.run pos pins s σ H _ I h) fun us s1 ⟨vs, H1, I1, r, z⟩ => ⟨I1.kIn, run_mkS M F hr hb (hx σ) I1 r z⟩) he hp) hd)⟩
theorem pe_mkS0 (M : Mk X.K C f) (F : FnOk X.prog X.w X.K X.mg X.base CX k f fd ps sp) (hr : Room (k + 1) X.A) (hg : Gl X x) (hm : X.mg x = some (.ref C)) (hb : Binds X.K fd ps []) (hx : ∀ σ, PassesAt CX X σ (E σ)) (hd : (x == ("__debug__" : Str)) = false) :
    PE X (.Call (.Name x q) [] [] pos) (tMakeG C sp E tNil) := ⟨fun pins s σ H Q I h => wpAny_Call_Name_kw (ld_glob I hg hm (PySem.W.callWith_K0 I.kIn M.kp (run_mkS (us := []) M F hr hb (hx σ) I .nil h)) hd)⟩
end
end
end Dn

set_option Elab.async false
set_option linter.all false
set_option maxRecDepth 100000
set_option maxHeartbeats 4000000
/-! Dn9: the theorem of expressions. -/
namespace Dn
open PySem L2
variable [ZS]
section
variable {X : Cx} {W : WX} {C : Cc}
theorem allE_cons {e : Expr} {es : List Expr} {fs : List EV} (a : AllE X W (e :: es) fs) : ∃ f gs, fs = f :: gs ∧ PE X e (tE X.K W f) ∧ AllE X W es gs := by
  cases fs with
  | nil => exact a.elim
  | cons f gs => exact ⟨f, gs, rfl, a.1, a.2⟩
theorem allE_nil {fs : List EV} (a : AllE X W [] fs) : fs = [] := by
  cases fs with
  | nil => rfl
  | cons f gs => exact a.elim
theorem pe_callBlt (G : Good C X W) (hh : C.hot = false) (b : Blt) {x : Str} {p pos : Pos} {e : Expr} {es : List Expr} {t : TA} (hx : b.name = x) (hg : Gl X x) (ha : PA X (e :: es) t) (hs : (e :: es).all notStar = true) :
    PE X (.Call (.Name x p) (e :: es) [] pos) (tCB (bltR X.K b) t) := by
  subst hx
  obtain ⟨h1, h2⟩ := all_cons hs
  have c := call_blt (G.calm hh) b
  have m := G.blt b
  have bo := b.boot
  have n1 := b.nm
  have n2 := b.db
  cases b with
  | abs => exact pe_callB c hg m bo ha n1 n2 (star_cons h1) (star_plain h2)
  | int => exact pe_callTy c hg m bo ha n1 n2 (star_cons h1) (star_plain h2)
  | len => exact pe_callB c hg m bo ha n1 n2 (star_cons h1) (star_plain h2)
  | max => exact pe_callB c hg m bo ha n1 n2 (star_cons h1) (star_plain h2)
  | min => exact pe_callB c hg m bo ha n1 n2 (star_cons h1) (star_plain h2)
  | tuple => exact pe_callTy c hg m bo ha n1 n2 (star_cons h1) (star_plain h2)
  | list => exact pe_callTy c hg m bo ha n1 n2 (star_cons h1) (star_plain h2)
  | str => exact pe_callTy c hg m bo ha n1 n2 (star_cons h1) (star_plain h2)
  | sorted => exact pe_callB c hg m bo ha n1 n2 (star_cons h1) (star_plain h2)
theorem pe_isi (G : Good C X W) {c : Cl} {T : Str} {a : Expr} {f : EV} {p q pos : Pos} (hT : c.sn = T) (gi : Gl X "isinstance") (gT : C.glob T = true) (hs : notStar a = true) (ha : PE X a (tE X.K W f)) :
    PE X (.Call (.Name "isinstance" p) [a, .Name T q] [] pos) (tE X.K W (dIsi c f)) := by
  subst hT
  obtain ⟨g1, g2⟩ := glob_gl G gT
  have pT : PE X (.Name c.sn q) (tC (.ty c.nm)) := pe_bltn g1 (G.cls c) c.boot rfl c.nmn g2
  exact (pe_callB call_isi gi G.isi PyProof.Rows.boot_isinstance (pa_cons ha (pa_cons pT pa_nil (star_cons rfl)) (star_cons hs)) (by decide +kernel) (by decide +kernel) (star_cons hs) (star_plain (by rfl))).impD fun _ _ _ h => s_isi h
theorem _root_.L2.PE.of {e : Expr} {t' : TE} (h : ∀ σ H Q, t' σ H Q → ∃ t, PE X e t ∧ t σ H Q) : PE X e t' := ⟨fun pins s σ H Q I hw => by
  obtain ⟨t, a, b⟩ := h σ H Q hw
  exact a.run pins s σ H Q I b⟩
theorem tE_mono {K : PySem.W.Frag} {f : EV} {σ : St} {H : Hp} {Q Q' : VK} (h : tE K W f σ H Q) (i : ∀ v H, Q v H → Q' v H) : tE K W f σ H Q' := by
  obtain ⟨ss, Af, r, h⟩ := h
  refine ⟨ss, Af, r, ?_⟩
  cases e : f ss with
  | err => rw [e] at h; exact h
  | exc x s1 => rw [e] at h; exact h
  | ok x s1 => rw [e] at h; exact fun v H1 g => i _ _ (h v H1 g)
theorem pe_tname (G : Good C X W) {c T : Str} {b : Bool} {q : Pos} (gT : C.glob T = true) (h : C.isx.lookup (c, T) = some b) : PE X (.Name T q) (tC (cvV X.K T)) := by
  obtain ⟨g1, g2⟩ := glob_gl G gT
  obtain ⟨h1, _⟩ := G.isq c T b h
  unfold cvV
  split
  · rename_i z
    subst z
    rw [if_pos rfl] at h1
    exact pe_bltn g1 h1 (by decide +kernel) rfl (by decide +kernel) g2
  · rename_i z
    rw [if_neg z] at h1
    exact pe_glob g1 h1 rfl g2
theorem pe_isiE (G : Good C X W) {args : List Expr} {kws : List Keyword} {fs : List EV} {p pos : Pos} (gi : Gl X "isinstance") (ha : AllE X W args fs) : PE X (.Call (.Name "isinstance" p) args kws pos) (tE X.K W (isiE C args kws fs)) := by
  unfold isiE
  split
  · rename_i a T q f f'
    split
    rotate_left
    · exact pe_err
    rename_i c
    split
    · rename_i cl e
      exact pe_isi G (clOf_name e) gi c.1 c.2 ha.1
    · split
      rotate_left
      · exact pe_err
      rename_i a0 dx c0 he
      unfold isxF
      split
      rotate_left
      · exact pe_err
      rename_i hs
      obtain ⟨b, hb⟩ := Option.isSome_iff_exists.mp hs
      have pT := pe_tname (q := q) G c.1 hb
      obtain ⟨_, T0, I0, _⟩ := G.isq c0 T b hb
      have hq := fun b' h => (G.isq c0 T b' h).2.2.2
      have gisi := G.isi
      obtain ⟨X0, oe, pl, e, hz, hv⟩ := G.exo a0 dx c0 he
      subst e
      exact (pe_callB (call_isX T0 I0 hz.zc hv) gi gisi PyProof.Rows.boot_isinstance (pa_cons ha.1 (pa_cons pT pa_nil (star_cons rfl)) (star_cons c.2)) (by decide +kernel) (by decide +kernel) (star_cons c.2) (star_plain (by rfl))).impD fun _ _ _ h => s_isX hq h
  · rename_i a T1 q1 T2 q2 k3 q3 f f'
    split
    rotate_left
    · exact pe_err
    rename_i c
    split
    · rename_i c1 c2 e1 e2
      obtain ⟨⟨g1, g2⟩, g3⟩ := c
      obtain ⟨g1, g4⟩ := glob_gl G g1
      obtain ⟨g2, g5⟩ := glob_gl G g2
      have h1 := clOf_name e1
      have h2 := clOf_name e2
      subst h1; subst h2
      have pT1 : PE X (.Name c1.sn q1) (tC (.ty c1.nm)) := pe_bltn g1 (G.cls c1) c1.boot rfl c1.nmn g4
      have pT2 : PE X (.Name c2.sn q2) (tC (.ty c2.nm)) := pe_bltn g2 (G.cls c2) c2.boot rfl c2.nmn g5
      have pT := pe_tup (pos := q3) (x1 := k3) (pa_cons pT1 (pa_cons pT2 pa_nil (star_cons rfl)) (star_cons rfl))
      exact (pe_callB call_isiT gi G.isi PyProof.Rows.boot_isinstance (pa_cons ha.1 (pa_cons pT pa_nil (star_cons rfl)) (star_cons g3)) (by decide +kernel) (by decide +kernel) (star_cons g3) (star_plain (by rfl))).impD fun _ _ _ h => s_isi2 h
    · exact pe_err
  · exact pe_err
theorem pe_defE (G : Good C X W) {x : Str} {e : FnE} {args : List Expr} {kws : List Keyword} {fs ks : List EV} {p pos : Pos} (g1 : Gl X x) (g2 : (x == ("__debug__" : Str)) = false) (he : C.fn.lookup (x, none) = some e) (ha : AllE X W args fs) (hk : AllK X W kws ks) :
    PE X (.Call (.Name x p) args kws pos) (tE X.K W (defE C x e args kws fs ks)) := by
  obtain ⟨f, fd, F⟩ := G.fns (x, none) e he
  have mg : X.mg x = some (.ref f) := F.mg
  unfold defE
  split
  · split
    rotate_left
    · exact pe_err
    rename_i c
    obtain ⟨hs, hh⟩ := c
    cases hb : C.hot with
    | false =>
      have ea : e.at false = e.F := rfl
      rw [ea]
      cases args with
      | nil =>
        have z := allE_nil ha
        subst z
        exact (pe_callS0 (F.ok inferInstance) (G.room hb) g1 mg F.kp F.bd (fun σ => L2N.passAt G.tk σ) g2).impD fun σ H Q h => by
          have h := s_call h
          exact s_nil (W := W) h
      | cons a es =>
        obtain ⟨f0, gs, e1, h1, h2⟩ := allE_cons ha
        subst e1
        obtain ⟨s1, s2⟩ := all_cons hs
        exact (pe_callS (F.ok inferInstance) (G.room hb) g1 mg F.kp F.bd (fun σ => L2N.passAt G.tk σ) (pa_all (all_frzArgs ha) hs) g2 (star_cons s1) (star_plain s2)).impD fun _ _ _ h => s_call h
    | true =>
      have ea : e.at true = e.Fh := rfl
      rw [ea]
      cases args with
      | nil => exact absurd rfl (hh hb)
      | cons a es =>
        obtain ⟨f0, gs, e1, h1, h2⟩ := allE_cons ha
        subst e1
        obtain ⟨s1, s2⟩ := all_cons hs
        exact (L2H.pe_callH (F.okh inferInstance) (G.roomh hb) (G.hotc hb) g1 mg F.kp F.bd (fun σ => L2N.passAt G.tk σ) (pa_all (all_frzArgs ha) hs) g2 (star_cons s1) (star_plain s2)).impD fun _ _ _ h => s_call h
  · split
    · exact pe_err
    rename_i hh
    have hh : C.hot = false := by simpa using hh
    split
    · rename_i nm hn
      split
      · rename_i hm
        exact (pe_callKS0 (F.ok inferInstance) G.tk (G.room hh) g1 mg F.kp (F.kb nm hm rfl) (pk_all (allK_frz hk)) hn g2).impD fun _ _ _ h => s_callK h
      · exact pe_err
    · exact pe_err
theorem pe_makE (G : Good C X W) (hh : C.hot = false) {x : Str} {e : FnE} {args : List Expr} {kws : List Keyword} {fs : List EV} {p pos : Pos} (g1 : Gl X x) (g2 : (x == ("__debug__" : Str)) = false) (he : C.fn.lookup (x, some ("__init__" : Str)) = some e) (ha : AllE X W args fs) :
    PE X (.Call (.Name x p) args kws pos) (tE X.K W (makE x e args kws fs)) := by
  obtain ⟨f, fd, F⟩ := G.fns (x, some "__init__") e he
  obtain ⟨m1, m2, m3⟩ := F.mg
  rw [if_pos rfl] at m3
  obtain ⟨j, hj, Fj⟩ := F.okm rfl
  have hr : Room (j + 1) X.A := (G.room hh).mono hj
  unfold makE
  split
  · split
    rotate_left
    · exact pe_err
    rename_i hs
    cases args with
    | nil =>
      have z := allE_nil ha
      subst z
      exact (pe_mkS0 m3 (Fj inferInstance) hr g1 m1 F.bd (fun σ => L2N.passAt G.tk σ) g2).impD fun σ H Q h => by
        have h := s_make h
        exact s_nil (W := W) h
    | cons a es =>
      obtain ⟨f0, gs, e1, h1, h2⟩ := allE_cons ha
      subst e1
      obtain ⟨s1, s2⟩ := all_cons hs
      exact (pe_mkS m3 (Fj inferInstance) hr g1 m1 F.bd (fun σ => L2N.passAt G.tk σ) (pa_all (all_frzArgs ha) hs) g2 (star_cons s1) (star_plain s2)).impD fun _ _ _ h => s_make h
  · exact pe_err
theorem pe_callD (G : Good C X W) {x : Str} {args : List Expr} {kws : List Keyword} {fs ks : List EV} {p pos : Pos} (ha : AllE X W args fs) (hk : AllK X W kws ks) :
    PE X (.Call (.Name x p) args kws pos) (tE X.K W (callE C x args kws fs ks)) := by
  unfold callE
  split
  rotate_left
  · exact pe_err
  rename_i g
  obtain ⟨g1, g2⟩ := glob_gl G g
  split
  · rename_i hx
    subst hx
    exact pe_isiE G g1 ha
  · split
    · rename_i e he
      exact pe_defE G g1 g2 he ha hk
    · split
      · exact pe_err
      rename_i hh
      have hh : C.hot = false := by simpa using hh
      split
      · rename_i e he
        exact pe_makE G hh g1 g2 he ha
      · unfold bltE
        split
        · rename_i b a es hb
          split
          · rename_i hs
            exact (pe_callBlt G hh b (bltOf_name hb) g1 (pa_all ha hs) hs).impD fun _ _ _ h => s_prim (ops_blt b) h
          · exact pe_err
        · exact pe_err
theorem base_ok {v : Expr} (h : okBase v = true) (f : Str) {env : Env} : attributeBase v f env (eval v env) = eval v env := by
  unfold okBase at h
  split at h <;> first | rfl | cases h
theorem pe_appE (G : Good C X W) {v : Expr} {args : List Expr} {fs : List EV} {ap cp : Pos} (ha : ∀ Z : ZS, @AllE Z X W args fs) :
    PE X (.Call (.Attribute v "append" ap) args [] cp) (tE X.K W (appE C v ap cp args fs)) := by
  unfold appE
  split
  · rename_i o p e g
    split
    rotate_left
    · exact pe_err
    rename_i i hi
    split
    rotate_left
    · exact pe_err
    rename_i c
    obtain ⟨c1, c3, c4⟩ := c
    obtain ⟨k1, k2⟩ := okName_spec c1
    obtain ⟨h1, h2⟩ := slot_vis G hi
    have pa : PA X [e] (tA X.K W (foldA [dFrz g])) := pa_all (X := X) (W := W) (es := [e]) (fs := [dFrz g]) ⟨pe_frzD (ha inferInstance).1, trivial⟩ (by show (notStar e && true) = true; rw [c3]; rfl)
    refine (pe_bm PySem.F.plainAttrs_list PySem.F.slot_list_append PySem.F.type_list_append mt_append (pe_var h1 h2 k1 k2) pa rfl ?_ c4 (star_cons c3) rfl).impD fun _ _ _ h => s_append h
    rw [star_cons c3]
    rfl
  · rename_i o p f q e g
    split
    rotate_left
    · exact pe_err
    rename_i i hi
    split
    rotate_left
    · exact pe_err
    rename_i c
    obtain ⟨c1, c3, c4⟩ := c
    obtain ⟨k1, k2⟩ := okName_spec c1
    obtain ⟨h1, h2⟩ := slot_vis G hi
    refine .of fun σ H Q h => ?_
    obtain ⟨Z', q'⟩ := s_appF G.flo h
    have pa : PA X [e] (@tA Z' X.K W (foldA [dFrz g])) := @pa_all Z' X W [e] [dFrz g] ⟨@pe_frzD Z' _ _ _ _ (ha Z').1, trivial⟩ (by show (notStar e && true) = true; rw [c3]; rfl)
    refine ⟨_, pe_bm PySem.F.plainAttrs_list PySem.F.slot_list_append PySem.F.type_list_append mt_append (pe_fld (f := f) (pe_var h1 h2 k1 k2) rfl) pa rfl ?_ c4 (star_cons c3) rfl, q'⟩
    rw [star_cons c3]
    rfl
  · exact pe_err
theorem pe_popE (G : Good C X W) {v : Expr} {args : List Expr} {ap cp : Pos} : PE X (.Call (.Attribute v "pop" ap) args [] cp) (tE X.K W (popE C v ap cp args)) := by
  unfold popE
  split
  · rename_i o p
    split
    rotate_left
    · exact pe_err
    rename_i i hi
    split
    rotate_left
    · exact pe_err
    rename_i c
    obtain ⟨c1, c4⟩ := c
    obtain ⟨k1, k2⟩ := okName_spec c1
    obtain ⟨h1, h2⟩ := slot_vis G hi
    exact (pe_bm0 PySem.F.plainAttrs_list PySem.F.slot_list_pop PySem.F.type_list_pop mt_pop (pe_var h1 h2 k1 k2) rfl c4).impD fun _ _ _ h => s_pop h
  · rename_i o p f q
    split
    rotate_left
    · exact pe_err
    rename_i i hi
    split
    rotate_left
    · exact pe_err
    rename_i c
    obtain ⟨c1, c4⟩ := c
    obtain ⟨k1, k2⟩ := okName_spec c1
    obtain ⟨h1, h2⟩ := slot_vis G hi
    exact (pe_bm0 PySem.F.plainAttrs_list PySem.F.slot_list_pop PySem.F.type_list_pop mt_pop (pe_fld (f := f) (pe_var h1 h2 k1 k2) rfl) rfl c4).impD fun _ _ _ h => s_popF G.flo h
  · exact pe_err
theorem pe_methD (G : Good C X W) {v : Expr} {m : Str} {args : List Expr} {kws : List Keyword} {f : EV} {fs : List EV} {ap cp : Pos} (hv : PE X v (tE X.K W f)) (ha : ∀ Z : ZS, @AllE Z X W args fs) :
    PE X (.Call (.Attribute v m ap) args kws cp) (tE X.K W (methE C v m ap cp args kws f fs)) := by
  unfold methE
  split
  rotate_left
  · exact pe_err
  split
  · rename_i hm
    subst hm
    exact pe_appE G ha
  split
  · rename_i hm
    subst hm
    exact pe_popE G
  split
  rotate_left
  · exact pe_err
  rename_i c
  obtain ⟨c1, c2, c3, c4, c5, c6⟩ := c
  refine .of fun σ H Q h => ?_
  obtain ⟨cn, e, he, q⟩ := s_meth h
  obtain ⟨g, fd, F⟩ := G.fns (cn, some m) e (candM_get he)
  obtain ⟨m1, m2, m3⟩ := F.mg
  rw [if_neg c3] at m3
  have ht := meth_tree (env := X.env) (base_ok c1 m) c2 c5 c6
  cases hb : C.hot with
  | false =>
    rw [hb] at q
    have ea : e.at false = e.F := rfl
    rw [ea] at q
    cases args with
    | nil =>
      have z := allE_nil (ha inferInstance)
      subst z
      exact ⟨_, pe_mS0 hv m2 m3 (F.ok inferInstance) (G.room hb) F.bd (fun σ => L2N.passAt G.tk σ) ht, tE_mono q fun x H1 z => ⟨z.1, s_nil (W := W) z.2⟩⟩
    | cons a es =>
      obtain ⟨f0, gs, e1, h1, h2⟩ := allE_cons (ha inferInstance)
      subst e1
      obtain ⟨s1, s2⟩ := all_cons c2
      exact ⟨_, pe_mS hv m2 m3 (F.ok inferInstance) (G.room hb) F.bd (fun σ => L2N.passAt G.tk σ) (pa_all (all_frzArgs (ha inferInstance)) c2) (star_cons s1) (star_plain s2) ht, q⟩
  | true =>
    rw [hb] at q
    have ea : e.at true = e.Fh := rfl
    rw [ea] at q
    cases args with
    | nil => exact absurd rfl (c4 hb)
    | cons a es =>
      obtain ⟨f0, gs, e1, h1, h2⟩ := allE_cons (ha inferInstance)
      subst e1
      obtain ⟨s1, s2⟩ := all_cons c2
      exact ⟨_, L2H.pe_methH hv m2 m3 (F.okh inferInstance) (G.roomh hb) (G.hotc hb) F.bd (fun σ => L2N.passAt G.tk σ) (pa_all (all_frzArgs (ha inferInstance)) c2) (star_cons s1) (star_plain s2) ht, tE_mono q fun x H1 ⟨⟨a, dx, fs, z1, z2, z3⟩, z4⟩ => ⟨a, dx, fs, z1, z2, z3, z4⟩⟩

/-! ### targets -/
theorem _root_.L2.PI.of {tg it : Expr} {t' : TI} (h : ∀ σ H R, t' σ H R → ∃ t, PI X tg it t ∧ t σ H R) : PI X tg it t' := ⟨fun pins s σ H R I hw => by
  obtain ⟨t, a, b⟩ := h σ H R hw
  exact a.run pins s σ H R I b⟩
theorem stS_loc (G : Good C X W) {x : Str} {i : Nat} (h : C.stS x = some i) : X.N[i]? = some x ∧ L2.Loc X.env.scope x ∧ (X.fn x = true ∨ X.env.scope.names.lookup x = some .local) := by
  have fnd : C.N.findIdx? (fun y => decide (y = x)) = some i ∧ L2.Loc C.st x := by
    unfold Cc.stS at h
    unfold L2.Loc
    split at h
    · exact ⟨h, .inl ‹_›⟩
    · exact ⟨h, .inr ‹_›⟩
    · cases h
  refine ⟨?_, G.fnl x fnd.2⟩
  have q := fnd.1
  rw [List.findIdx?_eq_some_iff_getElem] at q
  obtain ⟨h1, h2, _⟩ := q
  rw [G.N]
  have : C.N[i] = x := by simpa using h2
  rw [List.getElem?_eq_getElem h1, this]
theorem pg_nm (G : Good C X W) {x : Str} {i : Nat} {pos : Pos} (h : C.stS x = some i) : PG X (.Name x pos) (gName i) := by
  obtain ⟨h1, h2, h3⟩ := stS_loc G h
  exact pg_name (G.N ▸ G.nd) h1 h2 h3
theorem pgs_nm (G : Good C X W) : ∀ {es : List Expr} {is : List Nat}, namesOf C es = some is → PGs X es (gMany is) ∧ (assignEach es X.env).length = is.length ∧ (assignEach es X.env).findIdx? (·.1) = none
  | [], is, h => by
    cases h
    exact ⟨pgs_nil, rfl, rfl⟩
  | e :: es, is, h => by
    cases e with
    | Name x p =>
      unfold namesOf at h
      split at h
      · rename_i i is' h1 h2
        cases h
        obtain ⟨a, b, c⟩ := pgs_nm G h2
        refine ⟨pgs_cons (pg_nm G h1) a, ?_, ?_⟩
        · show (assignEach es X.env).length + 1 = is'.length + 1
          rw [b]
        · show List.findIdx? (fun y : Bool × (Value → Sem Unit) => y.1) ((false, _) :: assignEach es X.env) = none
          rw [List.findIdx?_cons, c]
          rfl
      · cases h
    | _ => cases h
mutual
theorem pg_tg (G : Good C X W) : ∀ {t : Expr} {tg : Tg}, tgOf C t = some tg → PG X t (tgG X.K tg)
  | .Name x p, tg, h => by
    unfold tgOf at h
    cases q : C.stS x with
    | none => rw [q] at h; cases h
    | some i => rw [q] at h; cases h; unfold tgG; exact pg_nm G q
  | .Tuple es k p, tg, h => by
    unfold tgOf at h
    split at h
    · cases h
    rename_i hh
    have hh : C.hot = false := by simpa using hh
    unfold orTn at h
    split at h
    · rename_i is q
      cases h
      obtain ⟨a, b, c⟩ := pgs_nm G q
      unfold tgG
      exact pg_tup (G.calm hh) a b c
    · cases q : tgsOf C es with
      | none => rw [q] at h; cases h
      | some ts =>
        rw [q] at h; cases h
        obtain ⟨a, b, c⟩ := pgs_tg G q
        unfold tgG
        exact pg_tup (G.calm hh) a b c
  | .Constant _ _ _, _, h | .BinOp _ _ _ _, _, h | .UnaryOp _ _ _, _, h | .BoolOp _ _ _, _, h | .Compare _ _ _ _, _, h | .IfExp _ _ _ _, _, h | .List _ _, _, h | .Subscript _ _ _, _, h | .Call _ _ _ _, _, h
  | .NamedExpr _ _ _, _, h | .Lambda _ _ _ _, _, h | .Dict _ _ _, _, h | .Set _ _ _, _, h | .ListComp _ _ _ _, _, h | .SetComp _ _ _ _, _, h | .DictComp _ _ _ _ _, _, h | .GeneratorExp _ _ _ _, _, h | .Await _ _, _, h
  | .Yield _ _, _, h | .YieldFrom _ _, _, h | .FormattedValue _ _ _ _, _, h | .JoinedStr _ _, _, h | .Attribute _ _ _, _, h | .Starred _ _, _, h | .Slice _ _ _ _, _, h => by cases h
theorem pgs_tg (G : Good C X W) : ∀ {es : List Expr} {ts : List Tg}, tgsOf C es = some ts → PGs X es (tgGs X.K ts) ∧ (assignEach es X.env).length = ts.length ∧ (assignEach es X.env).findIdx? (·.1) = none
  | [], ts, h => by
    unfold tgsOf at h
    cases h
    exact ⟨by unfold tgGs; exact pgs_nil, rfl, rfl⟩
  | e :: es, ts, h => by
    unfold tgsOf at h
    split at h
    · rename_i t ts' h1 h2
      cases h
      obtain ⟨a, b, c⟩ := pgs_tg G h2
      have ns : assignEach (e :: es) X.env = (false, assign e X.env) :: assignEach es X.env := by
        cases e <;> first | rfl | cases h1
      refine ⟨?_, ?_, ?_⟩
      · unfold tgGs
        exact pgs_cons (pg_tg G h1) a (by rw [ns]; rfl)
      · rw [ns]
        show (assignEach es X.env).length + 1 = ts'.length + 1
        rw [b]
      · rw [ns, List.findIdx?_cons, c]
        rfl
    · cases h
end
theorem fold_no {it : Expr} (h : isSetE it = false) {env : Env} : ∀ x, foldedSetIterable it env x = pure x := by
  intro x
  cases it <;> first | rfl | cases h

/-! ### blocks -/
/-- the context of a comprehension's block -/
theorem Good.blk (G : Good C X W) (hh : C.hot = false) {scope : Scope} (ok : BlkOk X.N X.env.scope scope (ownOf C.N scope)) (s : Shared) (H : Hp) (A : Addr) (cl : List (Str × Addr)) (fp : List Addr) :
    Good (C.blk scope) (X.blk s H scope (compEnvC scope cl A X.env) fp) (fun _ _ _ _ => False) := by
  have es : (compEnvC scope cl A X.env).scope = relS scope C.sc := by rw [← G.sc]; rfl
  refine ⟨G.N, G.nd, es, G.un, fun u s' x => ?_, G.calm, G.room, G.blt, G.cls, G.isi, G.nob, fun x hx => ?_, fun z => (by rw [show (C.blk scope).hot = C.hot from rfl, hh] at z; cases z), fun z => (by rw [show (C.blk scope).hot = C.hot from rfl, hh] at z; cases z), fun y e he => ?_, G.flo, G.cst, G.exs, fun a dx c h => (by cases h), G.isq, G.exq⟩
  · obtain ⟨a, B, sI, pins, σ, H, cls, d, e, I, nb, up, sky, na, os, ag, w⟩ := x
    exact w
  · have keep : ∀ {k : NameKind}, k ≠ .free → scope.names.lookup x = some k → (compEnvC scope cl A X.env).scope.names.lookup x = some k := fun hk h => by
      rw [es]
      exact lookup_relS_keep hk h
    rcases hx with h | h
    · exact ⟨.inl (keep (by decide) h), .inr (keep (by decide) h)⟩
    · exact ⟨.inr (keep (by decide) h), .inl (by show (scope.names.lookup x == some .cell) = true; rw [show scope.names.lookup x = some .cell from h]; rfl)⟩
  · obtain ⟨f, fd, F⟩ := G.fns y e he
    exact ⟨f, fd, F.mg, F.kp, F.bd, F.ok, F.okh, F.okm, F.kb⟩
theorem _root_.L2.PTs.impD {ifs : List Expr} {t t' : TT} (h : PTs X ifs t) (i : ∀ σ H Q, t' σ H Q → t σ H Q) : PTs X ifs t' := ⟨fun pins s σ H Q I hw => h.run pins s σ H Q I (i σ H Q hw)⟩
theorem yes_of {σ : St} {H : Hp} {Q : Bool → Hp → Prop} (h : tT X.K W dYes σ H Q) : tYes σ H Q := by
  obtain ⟨ss, Af, r, h⟩ := h
  exact Wn.done r h ⟨rfl, rfl⟩
/-- all of a comprehension but its iterator's form -/
theorem lc_parts (G : Good C X W) {tg it : Expr} {a : Int} {scope : Scope} {f : IV} {tt : TV} {te : EV} {σ : St} {H : Hp} {Q : VK} (h : tE X.K W (lcE C tg it a scope f tt te) σ H Q) :
    ∃ t, tgOf (C.blk scope) tg = some t ∧ C.hot = false ∧ a = 0 ∧ BlkOk X.N X.env.scope scope (ownOf C.N scope) ∧ isSetE it = false ∧ (needT it = true → isTupE tg = true) ∧ tE X.K W (dLc f t tt (dFrz te) ((ownOf C.N scope).map (·.2))) σ H Q := by
  unfold lcE at h
  split at h
  · rename_i c
    obtain ⟨c0, c1, c2, c3, c4⟩ := c
    split at h
    · rename_i t ht
      exact ⟨t, ht, c0, c1, by rw [G.N, G.sc]; exact blkOk_by c2, c3, c4, h⟩
    · obtain ⟨_, _, _, h⟩ := h; exact h.elim
  · obtain ⟨_, _, _, h⟩ := h; exact h.elim
theorem pe_lcD (G : Good C X W) {elt tg it : Expr} {ifs : List Expr} {a : Int} {scope : Scope} {pos : Pos} {f : IV} {tt : TV} {te : EV} (hi : ∀ tg, (needT it = true → isTupE tg = true) → PI X tg it (tI X.K W f))
    (ht : ∀ {X' : Cx} {W' : WX}, Good (C.blk scope) X' W' → PTs X' ifs (tT X'.K W' tt)) (he : ∀ {X' : Cx} {W' : WX}, Good (C.blk scope) X' W' → PE X' elt (tE X'.K W' te)) : PE X (.ListComp elt [⟨tg, it, ifs, a⟩] scope pos) (tE X.K W (lcE C tg it a scope f tt te)) := .of fun σ H Q h => by
  obtain ⟨t, h1, hh, h2, ok, h3, h4, h5⟩ := lc_parts G h
  subst h2
  exact ⟨_, pe_lc (G.calm hh) (G.N ▸ G.nd) (hi tg h4) ok (fun s H A cl fp => pg_tg (G.blk hh ok s H A cl fp) h1) (fun s H A cl fp => ht (G.blk hh ok s H A cl fp)) (fun s H A cl fp => pe_frzD (he (G.blk hh ok s H A cl fp))) (fold_no h3), s_lc h5⟩

theorem pe_lcM (G : Good C X W) {elt tg it : Expr} {ifs : List Expr} {a : Int} {scope : Scope} {pos : Pos} {tt : TV} {te : EV}
    (ht : ∀ {X' : Cx} {W' : WX}, Good (C.blk scope) X' W' → PTs X' ifs (tT X'.K W' tt)) (he : ∀ {X' : Cx} {W' : WX}, Good (C.blk scope) X' W' → PE X' elt (tE X'.K W' te)) : PE X (.ListComp elt [⟨tg, it, ifs, a⟩] scope pos) (tE X.K W (lcM C tg it a scope tt te)) := by
  unfold lcM
  split
  rotate_left
  · exact pe_err
  rename_i y p x q
  split
  rotate_left
  · exact pe_err
  rename_i j i hj hi
  split
  rotate_left
  · exact pe_err
  rename_i c
  obtain ⟨c1, hh, h2, c2⟩ := c
  subst h2
  obtain ⟨k1, k2⟩ := okName_spec c1
  obtain ⟨h1, h2⟩ := slot_vis G hj
  have ok : BlkOk X.N X.env.scope scope (ownOf C.N scope) := by rw [G.N, G.sc]; exact blkOk_by c2
  have ht1 : tgOf (C.blk scope) (.Name y p) = some (.nm i) := by unfold tgOf; rw [hi]; rfl
  have eg : tgG X.K (.nm i) = gName i := by unfold tgG; rfl
  refine (pe_lc (wi := iList X.K (tVar j)) (g := gName i) (G.calm hh) (G.N ▸ G.nd) (pi_list (pe_var h1 h2 k1 k2)) ok (fun s H A cl fp => ?_) (fun s H A cl fp => ht (G.blk hh ok s H A cl fp)) (fun s H A cl fp => pe_frzD (he (G.blk hh ok s H A cl fp))) (fold_no rfl)).impD fun σ H Q h => s_lcM h
  rw [← eg]
  exact pg_tg (G.blk hh ok s H A cl fp) ht1

/-! ### a field of the exception that the suite holds -/
theorem zip_lay {K : PySem.W.Frag} {H : Hp} {f : Str} {d : D} : ∀ {ns : List Str} {ds : List D} {vs : List V}, ns.length = ds.length → LayL K H ds vs [] → (ns.zip ds).lookup f = some d → ∃ v, (ns.zip vs).lookup f = some v ∧ Lay K H d v []
  | [], ds, vs, hl, l, h => by cases h
  | n :: ns, [], vs, hl, l, h => by cases hl
  | n :: ns, d0 :: ds, vs, hl, l, h => by
    obtain ⟨v, ws, e1, l1, l2⟩ := l.uncons0
    subst e1
    rw [List.zip_cons_cons, List.lookup_cons] at h
    rw [List.zip_cons_cons, List.lookup_cons]
    cases q : f == n with
    | true => rw [q] at h; cases h; exact ⟨v, rfl, l1⟩
    | false => rw [q] at h; exact zip_lay (by simpa using hl) l2 h
theorem s_xf {K : PySem.W.Frag} {W : WX} {a dx : Nat} {c f : Str} {g : EV} {σ : St} {H : Hp} {Q : VK} (h : tE K W (dXf a dx c f g) σ H Q) : tXf a (.ref (He.ga K c)) (some dx) (He.ga K c) f (tE K W g) σ H Q := by
  obtain ⟨ss, Af, rp, h⟩ := h
  refine bindW rp h fun x v H1 s1 Af1 B1 e1 r1 l1 n1 d1 st1 hw => ?_
  clear h
  unfold xfX at hw
  split at hw
  · rename_i a' dx' c' ns ds
    split at hw
    · rename_i q
      obtain ⟨q1, q2, q3⟩ := q
      subst q1; subst q2; subst q3
      obtain ⟨z, ev, vs, hx, hl, ll⟩ := (show Lay K H1 (.exo a' dx' c' ns ds) v B1 from l1)
      split at hw
      · rename_i d hd
        split at hw
        · obtain ⟨u, hu, lu⟩ := zip_lay hl ll hd
          exact ⟨ev, rfl, dx', _, u, rfl, hx, hu, Wn.done r1 hw lu⟩
        · exact hw.elim
      · exact hw.elim
    · exact hw.elim
  · exact hw.elim
theorem pe_attD (G : Good C X W) {v : Expr} {f : Str} {g : EV} {q : Pos} (hg : PE X v (tE X.K W g)) : PE X (.Attribute v f q) (tE X.K W (attE C v f g)) := by
  unfold attE
  split
  · rename_i a dx c n p he
    unfold attF
    split
    · rename_i fld hf
      split
      · rename_i e
        subst e
        have pn := pe_nameD (x := n) (pos := p) G
        obtain ⟨_, ⟨fI, S⟩, T⟩ := G.exs c f hf
        have nof := S.nof
        obtain ⟨X0, oe, pl, e, hz, hv⟩ := G.exo a dx c he
        subst e
        exact (pe_xf T nof hz.zc hv pn).impD fun _ _ _ h => s_xf h
      · exact pe_err
    · exact pe_err
  · split
    · rename_i c
      exact (pe_fld hg (base_ok c f)).impD fun _ _ _ h => s_fld G.flo h
    · exact pe_err
  · exact pe_err
/-! ### what is walked -/
theorem pi_err {tg e : Expr} : PI X tg e (tI X.K W dErrI) := .of fun σ H R h => by obtain ⟨_, _, _, h⟩ := h; exact h.elim
theorem pi_seqD {f : EV} {e tg : Expr} (h : PE X e (tE X.K W f)) : PI X tg e (tI X.K W (dSeqIt (dFrz f))) := .of fun σ H R q => by
  rcases s_seqIt q with q | q
  · exact ⟨_, pi_list (pe_frzD h), q⟩
  · exact ⟨_, pi_tup (pe_frzD h), q⟩
theorem pi_callD (G : Good C X W) {x : Str} {args : List Expr} {kws : List Keyword} {fs : List EV} {f : EV} {p pos : Pos} {tg : Expr} (ha : AllE X W args fs) (h : PE X (.Call (.Name x p) args kws pos) (tE X.K W f)) (hn : needT (.Call (.Name x p) args kws pos) = true → isTupE tg = true) :
    PI X tg (.Call (.Name x p) args kws pos) (tI X.K W (callI C x args kws fs f)) := by
  unfold callI
  split
  · split
    · rename_i c
      obtain ⟨c1, c2⟩ := c
      obtain ⟨g1, g2⟩ := glob_gl G c1
      split
      · rename_i e a
        obtain ⟨s1, s2⟩ := all_cons c2
        have pa : PA X [e] (tA X.K W (foldA [a])) := pa_all ha c2
        have paf : PA X [e] (tA X.K W (foldA [dFrz a])) := pa_all (es := [e]) (fs := [dFrz a]) ⟨pe_frzD ha.1, trivial⟩ c2
        split
        · rename_i hx
          subst hx
          exact .of fun σ H R h => ⟨_, pi_range1 g1 (G.nob _ (by decide)) pa (star_cons s1), s_rng1 h⟩
        · split
          · rename_i hx
            subst hx
            exact .of fun σ H R h => ⟨_, RT.pi_revA g1 (G.nob _ (by decide)) ha.1 (star_cons s1), s_revIt h⟩
          · split
            · rename_i hx
              subst hx
              have ht := hn rfl
              cases tg <;> first | cases ht | skip
              exact .of fun σ H R h => by
                rcases s_enum h with h | h
                · exact ⟨_, pi_enum g1 (G.nob _ (by decide)) paf (star_cons s1), h⟩
                · exact ⟨_, Dx.pi_enumT g1 (G.nob _ (by decide)) paf (star_cons s1), h⟩
            · exact pi_err
      · rename_i e e' a b
        obtain ⟨s1, s2⟩ := all_cons c2
        obtain ⟨s3, s4⟩ := all_cons s2
        have pa : PA X [e, e'] (tA X.K W (foldA [a, b])) := pa_all ha c2
        have paf : PA X [e, e'] (tA X.K W (foldA [dFrz a, dFrz b])) := pa_all (es := [e, e']) (fs := [dFrz a, dFrz b]) ⟨pe_frzD ha.1, pe_frzD ha.2.1, trivial⟩ c2
        split
        · rename_i hx
          subst hx
          exact .of fun σ H R h => ⟨_, pi_range2 g1 (G.nob _ (by decide)) pa (by rw [star_cons s1, star_cons s3]; rfl) (by rw [star_cons s3]; rfl), s_rng2 h⟩
        · split
          · rename_i hx
            subst hx
            have ht := hn rfl
            cases tg <;> first | cases ht | skip
            exact .of fun σ H R h => ⟨_, RZ.pi_zipA g1 (G.nob _ (by decide)) paf (star_cons s1) (star_plain s2), s_zip h⟩
          · exact pi_err
      · exact pi_err
    · exact pi_err
  · exact pi_seqD h
/-! ### the theorem -/
def OkT (X : Cx) (W : WX) (e : Expr) (p : ET) : Prop := PE X e (tE X.K W p.1) ∧ PT X e (tT X.K W p.2.1) ∧ ∀ tg, (needT e = true → isTupE tg = true) → PI X tg e (tI X.K W p.2.2)
def AllD (X : Cx) (W : WX) : List Expr → List ET → Prop
  | [], [] => True
  | e :: es, p :: ps => OkT X W e p ∧ AllD X W es ps
  | _, _ => False
theorem allD_e : ∀ {es : List Expr} {ps : List ET}, AllD X W es ps → AllE X W es (ps.map (·.1))
  | [], [], a => a
  | e :: es, p :: ps, a => ⟨a.1.1, allD_e a.2⟩
theorem allD_t : ∀ {es : List Expr} {ps : List ET}, AllD X W es ps → AllT X W es (ps.map (·.2.1))
  | [], [], a => a
  | e :: es, p :: ps, a => ⟨a.1.2.1, allD_t a.2⟩
theorem allD_f : ∀ {es : List Expr} {ps : List ET}, AllD X W es ps → AllE X W es (ps.map fun p => dFrz p.1)
  | [], [], a => a
  | e :: es, p :: ps, a => ⟨pe_frzD a.1.1, allD_f a.2⟩
def AllKD (X : Cx) (W : WX) : List Keyword → List ET → Prop
  | [], [] => True
  | ⟨_, e, _⟩ :: es, p :: ps => OkT X W e p ∧ AllKD X W es ps
  | _, _ => False
theorem allKD_e : ∀ {es : List Keyword} {ps : List ET}, AllKD X W es ps → AllK X W es (ps.map (·.1))
  | [], [], a => a
  | ⟨_, e, _⟩ :: es, p :: ps, a => ⟨a.1.1, allKD_e a.2⟩
/-- an expression whose test is the truth of its value -/
theorem ok_E1 {e : Expr} {f : EV} (h : PE X e (tE X.K W f)) (he : ∀ whole, isTrue e X.env whole = (do let v ← whole; standAt e.pos; holding [v] (truthy v))) : OkT X W e (E1 f) :=
  ⟨h, (pt_truth h he).impD fun _ _ _ q => s_tr q, fun _ _ => pi_seqD h⟩
theorem ok_err {e : Expr} : OkT X W e (dErr, dErrT, dErrI) := ⟨pe_err, pt_err, fun _ _ => pi_err⟩
theorem ok_E1err {e : Expr} : OkT X W e (E1 dErr) := ⟨pe_err, pt_trErr, fun _ _ => pi_seqD pe_err⟩

end
end Dn
namespace Dn
open PySem L2
mutual
theorem dn_ok [Z : ZS] {X : Cx} {W : WX} {C : Cc} (G : Good C X W) : ∀ e : Expr, OkT X W e (dn C e)
  | .Name x p => by unfold dn; exact ok_E1 (pe_nameD G) fun _ => rfl
  | .Constant c k p => by unfold dn; exact ok_E1 pe_constD fun _ => rfl
  | .BinOp a op b p => by
    unfold dn
    exact ok_E1 ((pe_op (op_bin op) (dn_ok G a).1 (dn_ok G b).1).impD fun _ _ _ h => s_two (ops_bin op) h) fun _ => rfl
  | .UnaryOp op a p => by
    unfold dn
    cases op with
    | Not => exact ⟨(pe_not (dn_ok G a).1).impD fun _ _ _ h => s_notE h, (pt_not (dn_ok G a).2.1).impD fun _ _ _ h => s_not h, fun _ _ => pi_err⟩
    | USub => exact ok_E1 ((pe_un un_neg (dn_ok G a).1).impD fun _ _ _ h => un_neg1 h) fun _ => rfl
    | _ => exact ok_E1err
  | .BoolOp op es p => by
    unfold dn
    have h := dnL_ok G es
    exact ⟨pe_boolD (allD_e h), (pw_boolD (allD_t h)).pt, fun _ _ => pi_seqD (pe_boolD (allD_e h))⟩
  | .Compare a ops bs p => by
    unfold dn
    have h := pe_cmpD G (pos := p) (ops := ops) (dn_ok G a).1 (allD_e (dnL_ok G bs))
    exact ⟨h.1, h.2, fun _ _ => pi_err⟩
  | .IfExp t a b p => by
    unfold dn
    have h : PE X (.IfExp t a b p) (tE X.K W (dIfE (dn C t).2.1 (dn C a).1 (dn C b).1)) := (pe_ifExp (dn_ok G t).2.1 (dn_ok G a).1 (dn_ok G b).1).impD fun _ _ _ h => s_ifE h
    exact ⟨h, pt_err, fun _ _ => pi_seqD h⟩
  | .Tuple es k p => by
    unfold dn
    split
    · exact ok_E1 ((pe_tup (pa_all (allD_f (dnL_ok G es)) ‹_›)).impD fun _ _ _ h => s_tup h) fun _ => rfl
    · exact ok_E1err
  | .List es p => by
    unfold dn
    split
    · exact ok_E1 ((pe_lst (pa_all (allD_f (dnL_ok G es)) ‹_›)).impD fun _ _ _ h => s_lst h) fun _ => rfl
    · exact ok_E1err
  | .Subscript a b p => by
    unfold dn
    split
    · rename_i lo hi q
      exact ok_E1 ((pe_slice sl_any (dn_ok G a).1 (dnO_ok G lo) (dnO_ok G hi)).impD fun _ _ _ h => s_sl h) fun _ => rfl
    · rename_i lo hi st q
      exact ok_E1 ((pe_sliceSt (dn_ok G a).1 (dnO_ok G lo) (dnO_ok G hi) ⟨fun pins s σ H Q I h => (po_some (dn_ok G st).1).run pins s σ H Q I (s_part h)⟩).impD fun _ _ _ h => s_slSt h) fun _ => rfl
    · split
      · exact ok_E1err
      · rename_i hb
        have pl : PlainIx b := fun o i => by cases b <;> first | rfl | exact absurd rfl hb
        exact ok_E1 ((pe_ix ix_seq (dn_ok G a).1 (dn_ok G b).1 pl).impD fun _ _ _ h => s_two ops_ix h) fun _ => rfl
  | .Call f args kws cp => by
    unfold dn
    split
    · rename_i x p
      have h := pe_callD (x := x) (p := p) (pos := cp) G (allD_e (dnL_ok G args)) (allKD_e (dnK_ok G kws))
      exact ⟨h, (ok_E1 h fun _ => rfl).2.1, fun tg hn => pi_callD G (allD_e (dnL_ok G args)) h hn⟩
    · rename_i v m ap
      exact ok_E1 (pe_methD G (dn_ok G v).1 fun Z' => @allD_e Z' _ _ _ _ (dnL_ok (Z := Z') G args)) fun _ => rfl
    · exact ok_E1err
  | .NamedExpr _ _ _ => by unfold dn; exact ok_err
  | .Lambda _ _ _ _ => by unfold dn; exact ok_err
  | .Dict _ _ _ => by unfold dn; exact ok_err
  | .Set _ _ _ => by unfold dn; exact ok_err
  | .ListComp elt gs scope p => by
    unfold dn
    split
    · rename_i tg it a
      exact ok_E1 (pe_lcD G (dn_ok G it).2.2 (fun G' => pts_nil.impD fun _ _ _ h => yes_of h) fun G' => (dn_ok G' elt).1) fun _ => rfl
    · rename_i tg it c a
      split
      · exact ok_E1 (pe_lcM G (fun G' => pts_one (dn_ok G' c).2.1) fun G' => (dn_ok G' elt).1) fun _ => rfl
      · exact ok_E1 (pe_lcD G (dn_ok G it).2.2 (fun G' => pts_one (dn_ok G' c).2.1) fun G' => (dn_ok G' elt).1) fun _ => rfl
    · exact ok_E1err
  | .SetComp _ _ _ _ => by unfold dn; exact ok_err
  | .DictComp _ _ _ _ _ => by unfold dn; exact ok_err
  | .GeneratorExp _ _ _ _ => by unfold dn; exact ok_err
  | .Await _ _ => by unfold dn; exact ok_err
  | .Yield _ _ => by unfold dn; exact ok_err
  | .YieldFrom _ _ => by unfold dn; exact ok_err
  | .FormattedValue _ _ _ _ => by unfold dn; exact ok_err
  | .JoinedStr _ _ => by unfold dn; exact ok_err
  | .Attribute v f p => by
    unfold dn
    exact ok_E1 (pe_attD G (dn_ok G v).1) fun _ => rfl
  | .Starred _ _ => by unfold dn; exact ok_err
  | .Slice _ _ _ _ => by unfold dn; exact ok_err
theorem dnL_ok [Z : ZS] {X : Cx} {W : WX} {C : Cc} (G : Good C X W) : ∀ es : List Expr, AllD X W es (dnL C es)
  | [] => trivial
  | e :: es => ⟨dn_ok G e, dnL_ok G es⟩
theorem dnO_ok [Z : ZS] {X : Cx} {W : WX} {C : Cc} (G : Good C X W) : ∀ o : Option Expr, PO X o (tO X.K W (dnO C o))
  | none => ⟨fun pins s σ H Q I h => po_none.run pins s σ H Q I (s_noP h)⟩
  | some e => ⟨fun pins s σ H Q I h => (po_some (dn_ok G e).1).run pins s σ H Q I (s_part h)⟩
theorem dnK_ok [Z : ZS] {X : Cx} {W : WX} {C : Cc} (G : Good C X W) : ∀ ks : List Keyword, AllKD X W ks (dnK C ks)
  | [] => trivial
  | ⟨_, e, _⟩ :: ks => ⟨dn_ok G e, dnK_ok G ks⟩
end
end Dn

set_option Elab.async false
set_option linter.all false
set_option maxRecDepth 100000
set_option maxHeartbeats 4000000
/-! Dn9r: expressions that only read, among views. -/
namespace Dn
open PySem L2

def orP (a b : Bool × Bool) : Bool × Bool := (a.1 || b.1, a.2 || b.2)
mutual
/-- does it ask for fields or methods; does it change something -/
def look (C : Cc) : Expr → Bool × Bool
  | .Attribute v _ _ => orP (C.ex.isNone, false) (look C v)
  | .Call f args kws _ => orP (match f with
      | .Attribute v m _ => orP (if C.chg.contains m = true ∨ m = "append" ∨ m = "pop" then (false, true) else (true, false)) (look C v)
      | .Name x _ => (false, C.chg.contains x)
      | _ => (false, true)) (orP (lookL C args) (lookK C kws))
  | .BinOp a _ b _ => orP (look C a) (look C b)
  | .UnaryOp _ a _ => look C a
  | .BoolOp _ es _ => lookL C es
  | .Compare a _ bs _ => orP (look C a) (lookL C bs)
  | .IfExp t a b _ => orP (look C t) (orP (look C a) (look C b))
  | .Tuple es _ _ => lookL C es
  | .List es _ => lookL C es
  | .Subscript a b _ => orP (look C a) (look C b)
  | .Name x _ => (C.hn.rov.contains x, false)
  | .Slice a b c _ => orP (lookO C a) (orP (lookO C b) (lookO C c))
  | .ListComp e gs _ _ => orP (look C e) (lookG C gs)
  | _ => (false, false)
def lookL (C : Cc) : List Expr → Bool × Bool
  | [] => (false, false)
  | e :: es => orP (look C e) (lookL C es)
def lookO (C : Cc) : Option Expr → Bool × Bool
  | none => (false, false)
  | some e => look C e
def lookK (C : Cc) : List Keyword → Bool × Bool
  | [] => (false, false)
  | ⟨_, e, _⟩ :: ks => orP (look C e) (lookK C ks)
def lookG (C : Cc) : List Comprehension → Bool × Bool
  | [] => (false, false)
  | ⟨_, it, ifs, _⟩ :: gs => orP (look C it) (orP (lookL C ifs) (lookG C gs))
end
def roE (C : Cc) (e : Expr) : Bool := (look C e).1 && !(look C e).2
noncomputable def dnR (C : Cc) (e : Expr) : ET := if roE C e = true then (dRO (dn C e).1, dROT (dn C e).2.1, (dn C e).2.2) else dn C e
theorem pe_ro {X : Cx} {W : WX} {e : Expr} {f : EV} [Z : ZS] (h : ∀ Z : ZS, PE X e (@tE Z X.K W f)) : PE X e (@tE Z X.K W (dRO f)) := .of fun σ H Q q => by
  obtain ⟨Z', q⟩ := s_ro q
  exact ⟨_, h Z', q⟩
theorem pt_ro {X : Cx} {W : WX} {e : Expr} {f : TV} [Z : ZS] (h : ∀ Z : ZS, PT X e (@tT Z X.K W f)) : PT X e (@tT Z X.K W (dROT f)) := ⟨fun pins s σ H Q I q => by
  obtain ⟨Z', q⟩ := s_roT q
  exact (h Z').run pins s σ H Q I q⟩
theorem dnR_ok [Z : ZS] {X : Cx} {W : WX} {C : Cc} (G : Good C X W) (e : Expr) : OkT X W e (dnR C e) := by
  unfold dnR
  split
  · exact ⟨pe_ro fun Z' => (dn_ok (Z := Z') G e).1, pt_ro fun Z' => (dn_ok (Z := Z') G e).2.1, (dn_ok G e).2.2⟩
  · exact dn_ok G e
noncomputable def dnRL (C : Cc) (es : List Expr) : List ET := es.map (dnR C)
theorem dnRL_ok [Z : ZS] {X : Cx} {W : WX} {C : Cc} (G : Good C X W) : ∀ es : List Expr, AllD X W es (dnRL C es)
  | [] => trivial
  | e :: es => ⟨dnR_ok G e, dnRL_ok G es⟩
end Dn

set_option Elab.async false
set_option linter.all false
set_option maxRecDepth 100000
set_option maxHeartbeats 4000000
/-! Dn10: statements but loops. -/
namespace Dn
open PySem L2
variable [ZS]

inductive RS where
  | nx (ss : Sl) | bk (ss : Sl) | ct (ss : Sl) | rt (d : D) (ss : Sl) | exc (e : Ex) (ss : Sl) | err
abbrev SV := List Nat → Sl → RS
def R.toS {α : Type} (r : R α) (k : α → Sl → RS) : RS := match r with
  | .ok a ss => k a ss
  | .exc e ss => .exc e ss
  | .err => .err
@[simp] theorem R.toS_ok {α : Type} (a : α) (ss : Sl) (k : α → Sl → RS) : (R.ok a ss).toS k = k a ss := rfl
@[simp] theorem R.toS_exc {α : Type} (e : Ex) (ss : Sl) (k : α → Sl → RS) : (R.exc e ss : R α).toS k = .exc e ss := rfl
@[simp] theorem R.toS_err {α : Type} (k : α → Sl → RS) : (R.err : R α).toS k = .err := rfl
def RS.seq (r : RS) (k : Sl → RS) : RS := match r with
  | .nx ss => k ss
  | o => o
@[simp] theorem RS.seq_nx (ss : Sl) (k : Sl → RS) : (RS.nx ss).seq k = k ss := rfl
@[simp] theorem RS.seq_bk (ss : Sl) (k : Sl → RS) : (RS.bk ss).seq k = .bk ss := rfl
@[simp] theorem RS.seq_ct (ss : Sl) (k : Sl → RS) : (RS.ct ss).seq k = .ct ss := rfl
@[simp] theorem RS.seq_rt (d : D) (ss : Sl) (k : Sl → RS) : (RS.rt d ss).seq k = .rt d ss := rfl
@[simp] theorem RS.seq_exc (e : Ex) (ss : Sl) (k : Sl → RS) : (RS.exc e ss).seq k = .exc e ss := rfl
@[simp] theorem RS.seq_err (k : Sl → RS) : RS.err.seq k = .err := rfl

section
variable (K : PySem.W.Frag) (L : List Nat) (σ0 : St) (H0 : Hp) (F0 : Addr → Prop)
def GotS (ss : Sl) (σ' : St) (H' : Hp) : Prop := ∃ Af, Rep K H' ss σ' Af ∧ Stp H0 F0 H' (Own Af) ∧ Lk L σ0 σ'
def GotR (ss : Sl) (d : D) (v : V) (H' : Hp) : Prop := ∃ σ' Af B, Rep K H' ss σ' Af ∧ Lay K H' d v B ∧ B.Nodup ∧ (∀ a ∈ B, ¬ Own Af a) ∧ Stp H0 F0 H' (fun b => Own Af b ∨ b ∈ B) ∧ Lk L σ0 σ'
def GotX (ss : Sl) (e : Ex) (cls : Value) (x : Option Addr) (σ' : St) (H' : Hp) : Prop := ∃ Af, Rep K H' ss σ' Af ∧ ExL K H' e cls x ∧ Stp H0 F0 H' (Own Af) ∧ Lk L σ0 σ'
def WnS (W : WX) (r : RS) (D : Ends) : Prop := match r with
  | .nx ss => ∀ σ' H', GotS K L σ0 H0 F0 ss σ' H' → D.nx σ' H'
  | .bk ss => ∀ σ' H', GotS K L σ0 H0 F0 ss σ' H' → D.bk σ' H'
  | .ct ss => ∀ σ' H', GotS K L σ0 H0 F0 ss σ' H' → D.ct σ' H'
  | .rt d ss => ∀ v H', GotR K L σ0 H0 F0 ss d v H' → D.rt v H'
  | .exc e ss => ∀ cls x σ' H', GotX K L σ0 H0 F0 ss e cls x σ' H' → W cls x σ' H'
  | .err => False
end
def tS (K : PySem.W.Frag) (W : WX) (L : List Nat) (g : SV) : TS := fun D σ H => ∃ ss Af, Rep K H ss σ Af ∧ WnS K L σ H (Own Af) W (g L ss) D

section
variable {K : PySem.W.Frag} {L L' : List Nat} {σ σ0 σ1 : St} {H H0 H1 : Hp} {F0 F1 : Addr → Prop} {W : WX} {ss : Sl} {Af Af1 : Nat → List Addr} {D : Ends}
theorem WnS.rebase {r : RS} (h : WnS K L σ0 H0 F0 W r D) (s : Stp H0 F0 H1 F1) (hs : ∀ b, Own Af1 b → F1 b) (lk : Lk L σ0 σ1) : WnS K L σ1 H1 (Own Af1) W r D := by
  cases r with
  | err => exact h
  | nx s1 => exact fun σ' H' ⟨Af2, r2, st2, l2⟩ => h σ' H' ⟨Af2, r2, s.trans st2 hs, lk.trans l2⟩
  | bk s1 => exact fun σ' H' ⟨Af2, r2, st2, l2⟩ => h σ' H' ⟨Af2, r2, s.trans st2 hs, lk.trans l2⟩
  | ct s1 => exact fun σ' H' ⟨Af2, r2, st2, l2⟩ => h σ' H' ⟨Af2, r2, s.trans st2 hs, lk.trans l2⟩
  | rt d s1 => exact fun v H' ⟨σ', Af2, B2, r2, y2, n2, d2, st2, l2⟩ => h v H' ⟨σ', Af2, B2, r2, y2, n2, d2, s.trans st2 hs, lk.trans l2⟩
  | exc e s1 => exact fun cls x σ' H' ⟨Af2, r2, x2, st2, l2⟩ => h cls x σ' H' ⟨Af2, r2, x2, s.trans st2 hs, lk.trans l2⟩
/-- the same ends, more -/
theorem WnS.ends {D' : Ends} {r : RS} (h : WnS K L σ0 H0 F0 W r D) (h1 : ∀ σ H, D.nx σ H → D'.nx σ H) (h2 : ∀ σ H, D.bk σ H → D'.bk σ H) (h3 : ∀ σ H, D.ct σ H → D'.ct σ H) (h4 : ∀ v H, D.rt v H → D'.rt v H) : WnS K L σ0 H0 F0 W r D' := by
  cases r with
  | err => exact h
  | nx s1 => exact fun σ' H' g => h1 _ _ (h σ' H' g)
  | bk s1 => exact fun σ' H' g => h2 _ _ (h σ' H' g)
  | ct s1 => exact fun σ' H' g => h3 _ _ (h σ' H' g)
  | rt d s1 => exact fun v H' g => h4 _ _ (h v H' g)
  | exc e s1 => exact h
/-- an expression, then the rest of the statement -/
theorem bindES {α β : Type} {LX : Hp → α → β → List Addr → Prop} {f : Sl → R α} {k : α → Sl → RS} {Q' : β → Hp → Prop} (s0 : Stp H0 F0 H F1) (hs : ∀ b, Own Af b → F1 b) (lk : Lk L σ0 σ) (r : Rep K H ss σ Af) (h : WnS K L σ0 H0 F0 W ((f ss).toS k) D)
    (hk : ∀ x v H1 ss1 Af1 B1, f ss = .ok x ss1 → Rep K H1 ss1 σ Af1 → LX H1 x v B1 → B1.Nodup → (∀ a ∈ B1, ¬ Own Af1 a) → Stp H (Own Af) H1 (fun b => Own Af1 b ∨ b ∈ B1) → WnS K L σ0 H0 F0 W (k x ss1) D → Q' v H1) :
    tD LX K W f σ H Q' := by
  refine ⟨ss, Af, r, ?_⟩
  cases e : f ss with
  | err => rw [e] at h; exact h
  | exc x s1 =>
    rw [e] at h
    exact fun cls d H2 ⟨Af2, r2, x2, st2⟩ => h cls d σ H2 ⟨Af2, r2, x2, s0.trans st2 hs, lk⟩
  | ok x s1 =>
    rw [e] at h
    intro v H1 ⟨Af1, B1, r1, l1, n1, d1, st1⟩
    exact hk x v H1 s1 Af1 B1 e r1 l1 n1 d1 st1 h

/-! ### small statements -/
def dPass : SV := fun _ ss => .nx ss
def dBreak : SV := fun _ ss => .bk ss
def dCont : SV := fun _ ss => .ct ss
def dErrS : SV := fun _ _ => .err
def dDrop (f : EV) : SV := fun _ ss => (f ss).toS fun _ s1 => .nx s1
def retX (L : List Nat) (x : Vx) (ss : Sl) : RS := match x with
  | .val d => .rt d ss
  | .plc i => if i ∈ L then .err else match ss[i]? with
    | some (some d) => .rt d (ss.set i none)
    | _ => .err
def dRet (f : EV) : SV := fun L ss => (f ss).toS (retX L)
def dRetN : SV := fun _ ss => .rt .non ss
def dIf (t : TV) (a b : SV) : SV := fun L ss => (t ss).toS fun c s1 => if c = true then a L s1 else b L s1
def dSeq (a b : SV) : SV := fun L ss => (a L ss).seq (b L)
def setX (L : List Nat) (i : Nat) (x : Vx) (ss : Sl) : RS := match x with
  | .val d => if i ∈ L ∨ ss.length ≤ i then .err else .nx (ss.set i (some d))
  | .plc _ => .err
def dSet (i : Nat) (f : EV) : SV := fun L ss => (f ss).toS (setX L i)
def setMany (L : List Nat) : List Nat → List Vx → Sl → RS
  | [], [], ss => .nx ss
  | i :: is, x :: xs, ss => (setX L i x ss).seq (setMany L is xs)
  | _, _, _ => .err
def dPar (is : List Nat) (g : AV) : SV := fun L ss => (g ss).toS (setMany L is)
def asg2 (i : Nat) (x y : Vx) (ss : Sl) : RS := match x, y, ss[i]? with
  | .val d, .val (.int k), some (some (.ml ds)) => if d.pure = true ∧ allPure ds = true then match ixN ds.length k with
      | some j => .nx (ss.set i (some (.ml (ds.set j d))))
      | none => .err
    else .err
  | _, _, _ => .err
/-- xs[k] = e, xs a name -/
def dSetIx (i : Nat) (k f : EV) : SV := fun _ ss => (f ss).toS fun x s1 => if isMl s1[i]? = true then (k s1).toS fun y s2 => asg2 i x y s2 else .err
def augD (op : Operator) : Dn.D → Dn.D → Option Dn.D
  | .int a, .int b => match op with
    | .Add => some (.int (a + b))
    | .Sub => some (.int (a - b))
    | .Mult => if (bigD a || bigD b) = true then some (.int (a * b)) else none
    | .FloorDiv => if 0 < b ∧ b < 2 ^ 64 then some (.int (a / b)) else none
    | .Mod => if 0 < b then some (.int (a % b)) else none
    | _ => none
  | .str s, .str t => match op with
    | .Add => if s.length + t.length ≤ sizeLine then some (.str (s ++ t)) else none
    | _ => none
  | _, _ => none
def augX (L : List Nat) (op : Operator) (i : Nat) (d : Dn.D) (y : Vx) (ss : Sl) : RS := match y with
  | .val e => match augD op d e with
    | some z => if i ∈ L ∨ ss.length ≤ i then .err else .nx (ss.set i (some z))
    | none => .err
  | .plc _ => .err
def dAug (op : Operator) (i : Nat) (f : EV) : SV := fun L ss => match ss[i]? with
  | some (some d) => (f ss).toS (augX L op i d)
  | _ => .err

theorem s_pass (h : tS K W L dPass D σ H) : tNext D σ H := by
  obtain ⟨ss, Af, r, h⟩ := h
  exact h σ H ⟨Af, r, Stp.refl, Lk.refl⟩
theorem s_break (h : tS K W L dBreak D σ H) : tBreak D σ H := by
  obtain ⟨ss, Af, r, h⟩ := h
  exact h σ H ⟨Af, r, Stp.refl, Lk.refl⟩
theorem s_cont (h : tS K W L dCont D σ H) : tCont D σ H := by
  obtain ⟨ss, Af, r, h⟩ := h
  exact h σ H ⟨Af, r, Stp.refl, Lk.refl⟩
theorem s_drop {f : EV} (h : tS K W L (dDrop f) D σ H) : L2.tDrop (tE K W f) D σ H := by
  obtain ⟨ss, Af, r, h⟩ := h
  refine bindES Stp.refl (fun _ z => z) Lk.refl r h fun x v H1 s1 Af1 B1 e1 r1 l1 n1 d1 st1 h => ?_
  exact h σ H1 ⟨Af1, r1, st1.sub fun b z => .inl z, Lk.refl⟩
theorem s_retN (h : tS K W L dRetN D σ H) : tRetN D σ H := by
  obtain ⟨ss, Af, r, h⟩ := h
  exact h .non H ⟨σ, Af, [], r, ⟨rfl, rfl⟩, List.nodup_nil, fun a z => (nomatch z), Stp.refl.sub (G := fun b => Own Af b ∨ b ∈ ([] : List Addr)) (fun b z => Or.elim z id fun y => nomatch y), Lk.refl⟩
theorem s_ret {f : EV} (h : tS K W L (dRet f) D σ H) : tRet (tE K W f) D σ H := by
  obtain ⟨ss, Af, r, h⟩ := h
  refine bindES Stp.refl (fun _ z => z) Lk.refl r h fun x v H1 s1 Af1 B1 e1 r1 l1 n1 d1 st1 h => ?_
  cases x with
  | val d => exact h v H1 ⟨σ, Af1, B1, r1, l1, n1, d1, st1, Lk.refl⟩
  | plc i =>
    unfold retX at h
    dsimp only at h
    split at h
    · exact h.elim
    · split at h
      · rename_i d e
        obtain ⟨q1, q2⟩ := l1
        subst q1
        obtain ⟨v', w1, w2⟩ := r1.lay i d e
        rw [q2] at w1; cases w1
        refine h v H1 ⟨σ, put Af1 i [], Af1 i, Rep.clear i r1, w2, r1.nd i, fun a ha ⟨j, hj⟩ => ?_, st1.sub fun b hb => ?_, Lk.refl⟩
        · by_cases z : j = i
          · subst z; rw [put_self] at hj; exact nomatch hj
          · rw [put_ne z] at hj; exact z (r1.dis j i a hj ha)
        · rcases hb with hb | hb
          · exact .inl (own_clear hb)
          · exact .inl ⟨i, hb⟩
      · exact h.elim
theorem s_if {t : TV} {a b : SV} (h : tS K W L (dIf t a b) D σ H) : tIfS (tT K W t) (tS K W L a) (tS K W L b) D σ H := by
  obtain ⟨ss, Af, r, h⟩ := h
  refine bindES Stp.refl (fun _ z => z) Lk.refl r h fun x v H1 s1 Af1 B1 e1 r1 l1 n1 d1 st1 h => ?_
  obtain ⟨q, _⟩ := l1
  subst q
  have h := h.rebase (Af1 := Af1) st1 (fun b z => .inl z) (σ1 := σ) Lk.refl
  cases v with
  | true => exact ⟨s1, Af1, r1, h⟩
  | false => exact ⟨s1, Af1, r1, h⟩
theorem s_seq {a b : SV} (h : tS K W L (dSeq a b) D σ H) : tSeq (tS K W L a) (tS K W L b) D σ H := by
  obtain ⟨ss, Af, r, h⟩ := h
  refine ⟨ss, Af, r, ?_⟩
  unfold dSeq at h
  cases e : a L ss with
  | nx s1 =>
    rw [e] at h
    rintro σ' H' ⟨Af1, r1, st1, l1⟩
    exact ⟨s1, Af1, r1, h.rebase st1 (fun _ z => z) l1⟩
  | bk s1 => rw [e] at h; exact h
  | ct s1 => rw [e] at h; exact h
  | rt d s1 => rw [e] at h; exact h
  | exc x s1 => rw [e] at h; exact h
  | err => rw [e] at h; exact h
/-- a value into a slot -/
theorem setX_ok {i : Nat} {x : Vx} {v : V} {B : List Addr} {k : Sl → RS} (s0 : Stp H0 F0 H F1) (hs : ∀ b, F1 b ↔ (Own Af b ∨ b ∈ B)) (lk : Lk L σ0 σ) (r : Rep K H ss σ Af) (l : LayX K σ H x v B) (n : B.Nodup) (d : ∀ a ∈ B, ¬ Own Af a) (hz : ∀ a ∈ B, ¬ ZS.z a)
    (h : WnS K L σ0 H0 F0 W ((setX L i x ss).seq k) D) : ∃ d0, x = .val d0 ∧ i ∉ L ∧ i < ss.length ∧ Rep K H (ss.set i (some d0)) (σ.set i (some v)) (put Af i B) ∧ Stp H0 F0 H (Own (put Af i B)) ∧ Lk L σ0 (σ.set i (some v)) ∧
      WnS K L σ0 H0 F0 W (k (ss.set i (some d0))) D := by
  unfold setX at h
  split at h
  · rename_i d0
    split at h
    · exact h.elim
    · rename_i c
      have c1 : i ∉ L := fun z => c (.inl z)
      have c2 : i < ss.length := Nat.lt_of_not_le fun z => c (.inr z)
      refine ⟨d0, rfl, c1, c2, r.set l n (fun a ha => .inl (d a ha)) hz c2, s0.sub fun b hb => (hs b).mpr ((own_put hb).elim .inl .inr), fun j hj => ?_, h⟩
      rw [List.getElem?_set_ne (fun z => c1 (by rw [z]; exact hj))]
      exact lk j hj
  · exact h.elim
theorem s_set {i : Nat} {f : EV} (h : tS K W L (dSet i f) D σ H) : tAsg (tE K W f) (gName i) D σ H := by
  obtain ⟨ss, Af, r, h⟩ := h
  refine bindES Stp.refl (fun _ z => z) Lk.refl r h fun x v H1 s1 Af1 B1 e1 r1 l1 n1 d1 st1 h => ?_
  have h : WnS K L σ H (Own Af) W ((setX L i x s1).seq .nx) D := by
    cases q : setX L i x s1 <;> rw [q] at h <;> exact h
  obtain ⟨d0, _, _, _, r2, st2, lk2, h⟩ := setX_ok st1 (fun b => Iff.rfl) Lk.refl r1 l1 n1 d1 (fun a ha => r.nzS st1 (.inr ha)) h
  exact h _ _ ⟨_, r2, st2, lk2⟩
/-- many values into slots; the temporaries apart -/
theorem setMany_ok : ∀ {is : List Nat} {xs : List Vx} {vs : List V} {B : List Addr} {ss : Sl} {σ : St} {Af : Nat → List Addr} {F1 : Addr → Prop}, Stp H0 F0 H F1 → (∀ b, (Own Af b ∨ b ∈ B) → F1 b) → Lk L σ0 σ → Rep K H ss σ Af → LayXL K σ H xs vs B → B.Nodup → (∀ a ∈ B, ¬ Own Af a) → (∀ a ∈ B, ¬ ZS.z a) →
    WnS K L σ0 H0 F0 W (setMany L is xs ss) D → vs.length = is.length ∧ D.nx ((is.zip vs).foldl (fun s p => s.set p.1 (some p.2)) σ) H
  | [], [], vs, B, ss, σ, Af, F1, s0, hs, lk, r, l, n, d, hz, h => by
    obtain ⟨e1, e2⟩ := l
    subst e1; subst e2
    exact ⟨rfl, h _ _ ⟨Af, r, s0.sub fun b hb => hs b (.inl hb), lk⟩⟩
  | [], x :: xs, vs, B, ss, σ, Af, F1, s0, hs, lk, r, l, n, d, hz, h => h.elim
  | i :: is, [], vs, B, ss, σ, Af, F1, s0, hs, lk, r, l, n, d, hz, h => h.elim
  | i :: is, x :: xs, vs, B, ss, σ, Af, F1, s0, hs, lk, r, l, n, d, hz, h => by
    obtain ⟨v, ws, B1, B2, e1, e2, l1, l2⟩ := l
    subst e1; subst e2
    obtain ⟨n1, n2, n3⟩ := List.nodup_append.mp n
    obtain ⟨d0, ex, hiL, hi, r2, st2, lk2, h⟩ := setX_ok (F1 := fun b => Own Af b ∨ b ∈ B1) (s0.sub fun b hb => hs b (hb.elim .inl fun z => .inr (List.mem_append_left _ z))) (fun b => Iff.rfl) lk r l1 n1 (fun a ha => d a (List.mem_append_left _ ha)) (fun a ha => hz a (List.mem_append_left _ ha)) h
    have l3 : LayXL K (σ.set i (some v)) H xs ws B2 := by
      -- no place of xs is a slot: each is a value, or the end fails; the values do not ask the slots
      have aux : ∀ {is : List Nat} {xs : List Vx} {ws : List V} {B2 : List Addr} {ss : Sl}, LayXL K σ H xs ws B2 → WnS K L σ0 H0 F0 W (setMany L is xs ss) D → LayXL K (σ.set i (some v)) H xs ws B2 := by
        intro is xs
        induction xs generalizing is with
        | nil => intro ws B2 ss l _; exact l
        | cons y ys ih =>
          intro ws B2 ss l hw
          obtain ⟨u, us, C1, C2, z1, z2, z3, z4⟩ := l
          cases is with
          | nil => exact hw.elim
          | cons j js =>
            have hw : WnS K L σ0 H0 F0 W ((setX L j y ss).seq (setMany L js ys)) D := hw
            unfold setX at hw
            split at hw
            · split at hw
              · exact hw.elim
              · exact ⟨u, us, C1, C2, z1, z2, z3, ih z4 hw⟩
            · exact hw.elim
      exact aux l2 h
    have q1 : ∀ b, (Own (put Af i B1) b ∨ b ∈ B2) → F1 b := fun b hb => by
      rcases hb with hb | hb
      · exact (own_put hb).elim (fun z => hs b (.inl z)) fun z => hs b (.inr (List.mem_append_left _ z))
      · exact hs b (.inr (List.mem_append_right _ hb))
    have q2 : ∀ a ∈ B2, ¬ Own (put Af i B1) a := fun a ha z => by
      rcases own_put z with z | z
      · exact d a (List.mem_append_right _ ha) z
      · exact n3 a z a ha rfl
    obtain ⟨hl, hn⟩ := setMany_ok (is := is) (xs := xs) (vs := ws) (B := B2) (F1 := F1) s0 q1 lk2 r2 l3 n2 q2 (fun a ha => hz a (List.mem_append_right _ ha)) h
    exact ⟨by simp [hl], hn⟩
def tParN (is : List Nat) (ta : TA) : TS := fun D σ H => ta σ H fun vs H1 => vs.length = is.length ∧ D.nx ((is.zip vs).foldl (fun s p => s.set p.1 (some p.2)) σ) H1
theorem s_par {is : List Nat} {g : AV} (h : tS K W L (dPar is g) D σ H) : tParN is (tA K W g) D σ H := by
  obtain ⟨ss, Af, r, h⟩ := h
  refine bindES Stp.refl (fun _ z => z) Lk.refl r h fun xs vs H1 s1 Af1 B1 e1 r1 l1 n1 d1 st1 h => ?_
  exact setMany_ok st1 (fun b z => z) Lk.refl r1 l1 n1 d1 (fun a ha => r.nzS st1 (.inr ha)) h
theorem asg2_get {i : Nat} {x y : Vx} (h : WnS K L σ0 H0 F0 W (asg2 i x y ss) D) : ∃ d k ds j, x = .val d ∧ y = .val (.int k) ∧ ss[i]? = some (some (.ml ds)) ∧ d.pure = true ∧ allPure ds = true ∧ ixN ds.length k = some j ∧
    WnS K L σ0 H0 F0 W (.nx (ss.set i (some (.ml (ds.set j d))))) D := by
  unfold asg2 at h
  split at h
  · rename_i d kk ds e
    split at h
    · rename_i p
      split at h
      · rename_i j hj
        exact ⟨d, kk, ds, j, rfl, rfl, e, p.1, p.2, hj, h⟩
      · exact h.elim
    · exact h.elim
  · exact h.elim
theorem s_setIx {i : Nat} {k f : EV} (h : tS K W L (dSetIx i k f) D σ H) : tAsg (tE K W f) (gSub (tVar i) (tE K W k) rSetL) D σ H := by
  obtain ⟨ss, Af, r, h⟩ := h
  refine bindES Stp.refl (fun _ z => z) Lk.refl r h fun x v H1 s1 Af1 B1 e1 r1 l1 n1 d1 st1 h => ?_
  split at h
  · rename_i c
    obtain ⟨ds0, c⟩ := isMl_spec c
    obtain ⟨w, h1, l, vs0, B0, e2, h2, h3, h4⟩ := r1.lay i _ c
    subst e2
    refine ⟨.ref l, h1, ?_⟩
    refine bindES st1 (fun b z => .inl z) Lk.refl r1 h fun y u H2 s2 Af2 B2 e3 r2 l2 n2 d2 st2 h => ?_
    have l1' := l1.stay st2 d1
    obtain ⟨d, kk, ds, j, ex, ey, e, p1, p2, hj, hN⟩ := asg2_get h
    subst ex; subst ey
    obtain ⟨v', q1, m, vs, B, q2, q3, q4, q5⟩ := r2.lay i _ e
    rw [h1] at q1; cases q1
    cases q2
    have z := layL_pure p2 q4
    subst z
    have lx : Lay K H2 d v B1 := l1'
    have z := lx.emp p1
    subst z
    have hi : i < s2.length := (List.getElem?_eq_some_iff.mp e).1
    refine ⟨l, vs, kk, j, rfl, l2.1, q3, by rw [LayL.len q4]; exact hj, ?_⟩
    have st : Stp H2 (fun b => b ∈ Af2 i) (upd H2 l (.lst (vs.set j v))) (fun b => b ∈ [l]) := by
      have := Stp.wrote (H := H2) (F := fun b => b ∈ [l]) (o := .lst (vs.set j v)) List.mem_cons_self q3 (.inl ⟨_, rfl⟩) (r2.nz l ⟨i, by rw [q5]; exact List.mem_cons_self⟩)
      rw [q5]
      exact this
    have lay : Lay K (upd H2 l (.lst (vs.set j v))) (.ml (ds.set j d)) (.ref l) [l] :=
      ⟨l, _, [], rfl, upd_same, LayL.set0 j (LayL.keep st.kp q4) (Lay.keep st.kp lx), rfl⟩
    obtain ⟨rw', sw⟩ := r2.write hi h1 st lay (by simp)
    exact hN σ _ ⟨_, rw', (st1.trans st2 fun _ z => .inl z).trans sw fun _ z => .inl z, Lk.refl⟩
  · exact h.elim
def rAug : Operator → R2
  | .Add => fun x y H Q => rI0 (fun i j => .int (i + j)) x y H Q ∨ (∃ i j, x = .str i ∧ y = .str j ∧ i.length + j.length ≤ sizeLine ∧ Q (.str (i ++ j)) H)
  | .Sub => rI0 fun i j => .int (i - j)
  | .Mult => rI CMul fun i j => .int (i * j)
  | .FloorDiv => rI CDivW fun i j => .int (i / j)
  | .Mod => rI (fun _ j => 0 < j) fun i j => .int (i % j)
  | _ => fun _ _ _ _ => False
theorem iop_fdivW' {X : Cx} : OpR X (inplaceOp .FloorDiv) (rI CDivW fun i j => .int (i / j)) := opI fun i j _ _ _ _ _ hc q => by
  have h1 : (0 : Int) < j := hc.1
  exact PyProof.Rows.ifloordiv_int (by omega) (by rw [Int.fdiv_eq_ediv_of_nonneg i (by omega)]; exact q) (.inl (PyProof.noPylong_of_log2 hc.2))
theorem pip_aug {X : Cx} (op : Operator) : PIp X op (rAug op) := by
  cases op with
  | Add => exact iop_add.or iop_add_str
  | Sub => exact iop_sub
  | Mult => exact iop_mul
  | FloorDiv => exact iop_fdivW'
  | Mod => exact iop_mod
  | _ => exact fun _ _ _ _ _ _ _ _ _ _ _ _ h => h.elim
theorem ops_aug (op : Operator) {x y d : Dn.D} {v w : V} {A B : List Addr} {Q : VK} (l1 : Lay K H x v A) (l2 : Lay K H y w B) (e : augD op x y = some d) (f : ∀ u, flatD d = some u → Q u H) : rAug op v w H Q := by
  unfold augD at e
  split at e
  · split at e
    · cases e; exact .inl ⟨_, _, l1.1, l2.1, f _ rfl⟩
    · cases e; exact ⟨_, _, l1.1, l2.1, f _ rfl⟩
    · split at e
      · rename_i c
        cases e
        refine ⟨_, _, l1.1, l2.1, ?_, f _ rfl⟩
        unfold bigD at c
        simp only [Bool.or_eq_true, Bool.and_eq_true, decide_eq_true_eq] at c
        exact c
      · cases e
    · split at e
      · rename_i c
        cases e
        refine ⟨_, _, l1.1, l2.1, wide_div (b := 64) c.1 ?_ (by decide) (by decide), f _ rfl⟩
        have h1 := c.1
        have h2 := c.2
        omega
      · cases e
    · split at e
      · cases e; exact ⟨_, _, l1.1, l2.1, ‹_›, f _ rfl⟩
      · cases e
    · cases e
  · split at e
    · split at e
      · cases e; exact .inr ⟨_, _, l1.1, l2.1, ‹_›, f _ rfl⟩
      · cases e
    · cases e
  · cases e
theorem augD_flat {op : Operator} {x y d : Dn.D} (e : augD op x y = some d) : x.pure = true ∧ ∃ u, flatD d = some u := by
  unfold augD at e
  split at e
  · refine ⟨rfl, ?_⟩
    split at e
    · cases e; exact ⟨_, rfl⟩
    · cases e; exact ⟨_, rfl⟩
    · split at e <;> first | (cases e; exact ⟨_, rfl⟩) | cases e
    · split at e <;> first | (cases e; exact ⟨_, rfl⟩) | cases e
    · split at e <;> first | (cases e; exact ⟨_, rfl⟩) | cases e
    · cases e
  · refine ⟨rfl, ?_⟩
    split at e
    · split at e <;> first | (cases e; exact ⟨_, rfl⟩) | cases e
    · cases e
  · cases e
theorem s_aug {op : Operator} {i : Nat} {f : EV} (h : tS K W L (dAug op i f) D σ H) : tAug i (tE K W f) (rAug op) D σ H := by
  obtain ⟨ss, Af, r, h⟩ := h
  unfold dAug at h
  split at h
  · rename_i d e
    obtain ⟨v, h1, h2⟩ := r.lay i d e
    refine ⟨v, h1, ?_⟩
    refine bindES Stp.refl (fun _ z => z) Lk.refl r h fun y w H1 s1 Af1 B1 e1 r1 l1 n1 d1 st1 h => ?_
    unfold augX at h
    split at h
    · rename_i e2
      split at h
      · rename_i z hz
        split at h
        · exact h.elim
        · rename_i c
          have c1 : i ∉ L := fun z => c (.inl z)
          have c2 : i < s1.length := Nat.lt_of_not_le fun z => c (.inr z)
          obtain ⟨p, u0, fu⟩ := augD_flat hz
          have z0 := h2.emp p
          rw [z0] at h2
          refine ops_aug op (Lay.keep st1.kp h2) l1 hz fun u hu => ?_
          have rs := r1.set (flat_lay (K := K) (H := H1) hu) List.nodup_nil (fun a z => nomatch z) (fun a z => nomatch z) c2
          refine h _ _ ⟨_, rs, st1.sub fun b hb => .inl ((own_put hb).elim id fun z => nomatch z), fun j hj => ?_⟩
          rw [List.getElem?_set_ne (fun z => c1 (by rw [z]; exact hj))]
      · exact h.elim
    · exact h.elim
  · exact h.elim
end
/-! ### a field written -/
section
variable {K : PySem.W.Frag} {H H' : Hp} {ss : Sl} {σ : St} {Af : Nat → List Addr}
def setFX (fl : List (Str × Str)) (i : Nat) (f : Str) (x : Vx) (ss : Sl) : RS := match x, ss[i]? with
  | .val d, some (some (.ins c ns ds)) => if (c, f) ∈ fl ∧ ns.length < 1000 then match fIx f ns with
      | some j => if j < ds.length then .nx (ss.set i (some (.ins c ns (ds.set j d)))) else .err
      | none => .nx (ss.set i (some (.ins c (ns ++ [f]) (ds ++ [d]))))
    else .err
  | _, _ => .err
def dSetF (fl : List (Str × Str)) (i : Nat) (f : Str) (g : EV) : SV := fun _ ss => (g ss).toS (setFX fl i f)
theorem s_setF {W : WX} {L : List Nat} {D : Ends} {fl : List (Str × Str)} {i : Nat} {f : Str} {g : EV} (hfl : FlOk K fl) (h : tS K W L (dSetF fl i f g) D σ H) : sFld K (tVar i) (tE K W g) f D σ H := by
  obtain ⟨ss, Af, r, h⟩ := h
  refine bindES Stp.refl (fun _ z => z) Lk.refl r h fun x y H1 s1 Af1 B1 e1 r1 l1 n1 d1 st1 h => ?_
  unfold setFX at h
  split at h
  rotate_left
  · exact h.elim
  rename_i d c ns ds e
  split at h
  rotate_left
  · exact h.elim
  rename_i m
  obtain ⟨m1, m2⟩ := m
  obtain ⟨k1, k2⟩ := hfl c f m1
  obtain ⟨v, hv, a, dx, vs, B, e2, ha, hl, ll, eA⟩ := r1.lay i _ e
  subst e2
  have hi : i < s1.length := (List.getElem?_eq_some_iff.mp e).1
  have hlv : ns.length = vs.length := by rw [LayL.len ll]; exact hl
  have l1 : Lay K H1 d y B1 := l1
  have hz : ∀ a ∈ B1, ¬ ZS.z a := fun a ha => r.nzS st1 (.inr ha)
  have nd0 : (a :: B).Nodup := by rw [← eA]; exact r1.nd i
  obtain ⟨aB, nB⟩ := List.nodup_cons.mp nd0
  have inA : ∀ b, b ∈ a :: B → Own Af1 b := fun b hb => ⟨i, by rw [eA]; exact hb⟩
  have aB1 : a ∉ B1 := fun z => d1 a z (inA a List.mem_cons_self)
  refine ⟨.ref a, hv, a, _, dx, _, rfl, ha, k1, k2, by rw [List.length_zip]; omega, ?_⟩
  have w0 : ∀ u : HO, Stp H1 (fun b => b ∈ Af1 i ∨ b ∈ B1) (upd H1 a u) (fun b => b ∈ Af1 i ∨ b ∈ B1) := fun u => Stp.wrote (.inl (by rw [eA]; exact List.mem_cons_self)) ha (.inr ⟨_, _, _, rfl⟩) (r1.nz a (inA a List.mem_cons_self))
  have st0 : ∀ (u : HO) (b : Addr), b ≠ a → ∀ o, H1 b = some o → upd H1 a u b = some o := fun u b n o q => by rw [upd_ne n]; exact q
  -- the end
  have fin : ∀ (ns' : List Str) (ds' : List Dn.D) (vs' : List V) (B' : List Addr), ns'.length = ds'.length → (a :: B').Nodup → (∀ b ∈ B', b ∈ B ∨ b ∈ B1) → LayL K (upd H1 a (.ins (He.ga K c) dx (ns'.zip vs'))) ds' vs' B' →
      WnS K L σ H (Own Af) W (.nx (s1.set i (some (.ins c ns' ds')))) D → D.nx σ (upd H1 a (.ins (He.ga K c) dx (ns'.zip vs'))) := fun ns' ds' vs' B' hl' nd' sub ll' h => by
    have hsub : ∀ b, b ∈ a :: B' → b ∈ Af1 i ∨ b ∈ B1 := fun b hb => by
      rcases List.mem_cons.mp hb with hb | hb
      · exact .inl (by rw [eA, hb]; exact List.mem_cons_self)
      · exact (sub b hb).imp (fun z => by rw [eA]; exact List.mem_cons_of_mem _ z) id
    obtain ⟨q1, q2⟩ := r1.put (j := i) (A' := a :: B') (d' := .ins c ns' ds') (v := .ref a) (H' := upd H1 a (.ins (He.ga K c) dx (ns'.zip vs'))) d1 hz hi hv ((w0 _).sub hsub) ⟨a, dx, vs', B', rfl, upd_same, hl', ll', rfl⟩ nd'
    exact h σ _ ⟨_, q1, st1.trans q2 fun _ z => z, Lk.refl⟩
  split at h
  · rename_i j hj
    split at h
    rotate_left
    · exact h.elim
    rename_i hlt
    rw [fIx_put hj hlv]
    obtain ⟨u, C1, C, C2, z1, z2, z3, z4⟩ := LayL.at (i := j) ll (List.getElem?_eq_getElem hlt)
    subst z2
    obtain ⟨p1, p2, p3⟩ := List.nodup_append.mp nB
    obtain ⟨p4, p5, p6⟩ := List.nodup_append.mp p2
    refine fin _ _ _ (C1 ++ (B1 ++ C2)) (by rw [List.length_set]; exact hl) (List.nodup_cons.mpr ⟨fun z => ?_, List.nodup_append.mpr ⟨p1, List.nodup_append.mpr ⟨n1, p5, fun b hb b' hb' ee => ?_⟩, fun b hb b' hb' ee => ?_⟩⟩) (fun b hb => ?_) (z4 _ d y B1 (w0 _).kp (fun b hb o q => ?_) (Lay.step (w0 _).kp d y B1 (fun b hb o q => st0 _ b (fun z => aB1 (by rw [← z]; exact hb)) o q) l1)) h
    · rcases List.mem_append.mp z with z | z
      · exact aB (List.mem_append_left _ z)
      · rcases List.mem_append.mp z with z | z
        · exact aB1 z
        · exact aB (List.mem_append_right _ (List.mem_append_right _ z))
    · subst ee
      exact d1 b hb (inA b (List.mem_cons_of_mem _ (List.mem_append_right _ (List.mem_append_right _ hb'))))
    · subst ee
      rcases List.mem_append.mp hb' with z | z
      · exact d1 b z (inA b (List.mem_cons_of_mem _ (List.mem_append_left _ hb)))
      · exact p3 b hb b (List.mem_append_right _ z) rfl
    · rcases List.mem_append.mp hb with z | z
      · exact .inl (List.mem_append_left _ z)
      · rcases List.mem_append.mp z with z | z
        · exact .inr z
        · exact .inl (List.mem_append_right _ (List.mem_append_right _ z))
    · refine st0 _ b (fun z => aB ?_) o q
      rw [← z]
      exact hb.elim (fun w => List.mem_append_left _ w) fun w => List.mem_append_right _ (List.mem_append_right _ w)
  · rename_i hj
    rw [fIx_new hj hlv]
    have b1 : LayL K (upd H1 a (.ins (He.ga K c) dx ((ns ++ [f]).zip (vs ++ [y])))) ds vs B := LayL.step (w0 _).kp ds vs B (fun b hb o q => st0 _ b (fun z => aB (by rw [← z]; exact hb)) o q) ll
    have b2 := LayL.append b1 (LayL.cons (Lay.step (w0 _).kp d y B1 (fun b hb o q => st0 _ b (fun z => aB1 (by rw [← z]; exact hb)) o q) l1) LayL.nil)
    rw [List.append_nil] at b2
    refine fin _ _ _ (B ++ B1) (by simp [hl]) (List.nodup_cons.mpr ⟨fun z => (List.mem_append.mp z).elim aB aB1, List.nodup_append.mpr ⟨nB, n1, fun b hb b' hb' ee => ?_⟩⟩) (fun b hb => List.mem_append.mp hb) b2 h
    subst ee
    exact d1 b hb' (inA b (List.mem_cons_of_mem _ hb))

end
end Dn

set_option Elab.async false
set_option linter.all false
set_option maxRecDepth 100000
set_option maxHeartbeats 4000000
/-! Dn11: loops: for and while. -/
namespace Dn
open PySem L2
variable [ZS]

section
variable {K : PySem.W.Frag} {L : List Nat} {H : Hp} {W : WX}
/-! ### for -/
def lkOf (L : List Nat) (it : ItD) : List Nat := match it.src with
  | none => L
  | some (j, _) => j :: L
noncomputable def forGo (tg : Tg) (g : SV) (it : ItD) (L : List Nat) : List D → Sl → RS
  | [], ss => if srcOk it ss = true then .nx ss else .err
  | d :: r, ss => if srcOk it ss = true then match tgSet L tg d ss with
      | some s1 => match g L s1 with
        | .nx s2 => forGo tg g it L r s2
        | .ct s2 => forGo tg g it L r s2
        | .bk s2 => .nx s2
        | o => o
      | none => .err
    else .err
noncomputable def dFor (f : IV) (tg : Tg) (g : SV) : SV := fun L ss => (f ss).toS fun it s1 => forGo tg g it (lkOf L it) it.ds s1
theorem src_of {σ σ1 : St} {H H1 : Hp} {it : ItD} {ss : Sl} {Af : Nat → List Addr} (r : Rep K H ss σ1 Af) (c : srcOk it ss = true) (s : Kp H1 H) (lk : Lk (lkOf L it) σ σ1) : Src K σ H1 it H := by
  unfold srcOk at c
  unfold Src
  unfold lkOf at lk
  cases q : it.src with
  | none => exact s
  | some je =>
    obtain ⟨j, es⟩ := je
    rw [q] at c lk
    dsimp only at c lk ⊢
    split at c
    · rename_i e
      obtain ⟨v, h1, h2⟩ := r.lay j _ e
      exact ⟨v, Af j, by rw [← lk j List.mem_cons_self]; exact h1, h2⟩
    · cases c
theorem lk_sub {σ σ1 : St} {it : ItD} (h : Lk (lkOf L it) σ σ1) : Lk L σ σ1 := fun i hi => h i (by
  unfold lkOf
  cases it.src with
  | none => exact hi
  | some je => exact List.mem_cons_of_mem _ hi)
theorem s_for {σ : St} {H : Hp} {Z : Ends} {f : IV} {tg : Tg} {g : SV} (h : tS K W L (dFor f tg g) Z σ H) : ∃ L', tFor (tI K W f) (tgG K tg) (tS K W L' g) Z σ H := by
  obtain ⟨ss, Af, rp, h⟩ := h
  unfold dFor at h
  cases e : f ss with
  | err => rw [e] at h; exact h.elim
  | exc x s1 =>
    rw [e] at h
    refine ⟨L, ⟨ss, Af, rp, ?_⟩⟩
    rw [e]
    exact fun cls d H2 ⟨Af2, r2, x2, st2⟩ => h cls d σ H2 ⟨Af2, r2, x2, st2, Lk.refl⟩
  | ok it s1 =>
    rw [e] at h
    refine ⟨lkOf L it, ss, Af, rp, ?_⟩
    rw [e]
    rintro J H1 ⟨Af1, B1, r1, ⟨z, ok⟩, _, _, st1⟩
    subst z
    have h : WnS K L σ H (Own Af) W (forGo tg g it (lkOf L it) it.ds s1) Z := h
    refine ⟨fun i m σ' H' => m + i = it.ds.length ∧ ∃ ss' Af', Rep K H' ss' σ' Af' ∧ Stp H (Own Af) H' (Own Af') ∧ Kp H1 H' ∧ Lk (lkOf L it) σ σ' ∧ WnS K L σ H (Own Af) W (forGo tg g it (lkOf L it) (it.ds.drop i) ss') Z,
      ⟨it.ds.length, rfl, s1, Af1, r1, st1.sub fun b hb => .inl hb, Kp.refl _, Lk.refl, by rw [List.drop_zero]; exact h⟩, ?_⟩
    rintro i m σ' H' ⟨hm, ss', Af', r', st', kp', lk', h'⟩
    by_cases hi : i < it.ds.length
    · right
      have hd : it.ds.drop i = it.ds[i] :: it.ds.drop (i + 1) := List.drop_eq_getElem_cons hi
      rw [hd] at h'
      unfold forGo at h'
      split at h'
      rotate_left
      · exact h'.elim
      rename_i c
      have hs : Src K σ H1 it H' := src_of r' c kp' lk'
      obtain ⟨hgo, hy⟩ := ok.2 i H' it.ds[i] hs (List.getElem?_eq_getElem hi)
      refine ⟨hgo, fun σ2 H2 => ∃ m', m' < m ∧ m' + (i + 1) = it.ds.length ∧ ∃ ss2 Af2, Rep K H2 ss2 σ2 Af2 ∧ Stp H (Own Af) H2 (Own Af2) ∧ Kp H1 H2 ∧ Lk (lkOf L it) σ σ2 ∧ WnS K L σ H (Own Af) W (forGo tg g it (lkOf L it) (it.ds.drop (i + 1)) ss2) Z,
        fun σ2 H2 ⟨m', a, b⟩ => ⟨m', a, b⟩, fun x H2 y => ?_⟩
      obtain ⟨lx, sx⟩ := hy x H2 y
      have r2 : Rep K H2 ss' σ' Af' := r'.step sx fun _ _ z => z
      have sx' : Stp H' (Own Af') H2 (Own Af') := ⟨sx.kp, fun b o _ e => sx.keep b o id e, fun b hb => .inl hb⟩
      cases q : tgSet (lkOf L it) tg it.ds[i] ss' with
      | none => rw [q] at h'; exact h'.elim
      | some s2 =>
        rw [q] at h'
        dsimp only at h'
        refine tg_ok r2 lx q fun σ3 Af3 r3 o3 k3 => ?_
        have st3 : Stp H (Own Af) H2 (Own Af3) := (st'.trans sx' fun _ z => z).sub fun b hb => o3 b hb
        have lk3 : Lk (lkOf L it) σ σ3 := lk'.trans k3
        refine ⟨s2, Af3, r3, ?_⟩
        have nxt : ∀ {s4 : Sl} {σ4 : St} {H4 : Hp}, WnS K L σ H (Own Af) W (forGo tg g it (lkOf L it) (it.ds.drop (i + 1)) s4) Z → GotS K (lkOf L it) σ3 H2 (Own Af3) s4 σ4 H4 →
            ∃ m', m' < m ∧ m' + (i + 1) = it.ds.length ∧ ∃ ss2 Af2, Rep K H4 ss2 σ4 Af2 ∧ Stp H (Own Af) H4 (Own Af2) ∧ Kp H1 H4 ∧ Lk (lkOf L it) σ σ4 ∧ WnS K L σ H (Own Af) W (forGo tg g it (lkOf L it) (it.ds.drop (i + 1)) ss2) Z := fun {s4 σ4 H4} w ⟨Af4, r4, st4, lk4⟩ =>
          ⟨m - 1, by omega, by omega, s4, Af4, r4, st3.trans st4 fun _ z => z, (kp'.trans sx.kp).trans st4.kp, lk3.trans lk4, w⟩
        cases q2 : g (lkOf L it) s2 with
        | err => rw [q2] at h'; exact h'
        | nx s4 => rw [q2] at h'; exact fun σ4 H4 g4 => nxt h' g4
        | ct s4 => rw [q2] at h'; exact fun σ4 H4 g4 => nxt h' g4
        | bk s4 => rw [q2] at h'; exact fun σ4 H4 ⟨Af4, r4, st4, lk4⟩ => h' σ4 H4 ⟨Af4, r4, st3.trans st4 fun _ z => z, lk_sub (lk3.trans lk4)⟩
        | rt d s4 => rw [q2] at h'; exact fun v H4 ⟨σ4, Af4, B4, r4, l4, n4, d4, st4, lk4⟩ => h' v H4 ⟨σ4, Af4, B4, r4, l4, n4, d4, st3.trans st4 fun _ z => z, lk_sub (lk3.trans lk4)⟩
        | exc x s4 => rw [q2] at h'; exact fun cls u σ4 H4 ⟨Af4, r4, x4, st4, lk4⟩ => h' cls u σ4 H4 ⟨Af4, r4, x4, st3.trans st4 fun _ z => z, lk_sub (lk3.trans lk4)⟩
    · left
      have hd : it.ds.drop i = [] := List.drop_eq_nil_of_le (Nat.le_of_not_lt hi)
      rw [hd] at h'
      unfold forGo at h'
      split at h'
      · rename_i c
        have hs : Src K σ H1 it H' := src_of r' c kp' lk'
        exact ⟨ok.1 i H' hs (Nat.le_of_not_lt hi), h' σ' H' ⟨Af', r', st', lk_sub lk'⟩⟩
      · exact h'.elim

/-! ### while -/
def whGo (t : TV) (g : SV) (L : List Nat) : Nat → Sl → RS
  | 0, _ => .err
  | n + 1, ss => (t ss).toS fun c s1 => if c = true then match g L s1 with
      | .nx s2 => whGo t g L n s2
      | .ct s2 => whGo t g L n s2
      | .bk s2 => .nx s2
      | o => o
    else .nx s1
open Classical in
noncomputable def dWhile (t : TV) (g : SV) : SV := fun L ss => if h : ∃ n, whGo t g L n ss ≠ .err then whGo t g L (choose h) ss else .err
theorem wh_mono {t : TV} {g : SV} {L : List Nat} : ∀ {n m : Nat} {ss : Sl}, whGo t g L n ss ≠ .err → n ≤ m → whGo t g L m ss = whGo t g L n ss
  | 0, _, ss, h, _ => absurd rfl h
  | n + 1, 0, ss, h, hm => absurd hm (Nat.not_succ_le_zero _)
  | n + 1, m + 1, ss, h, hm => by
    have hm' : n ≤ m := Nat.le_of_succ_le_succ hm
    unfold whGo at h ⊢
    cases q : t ss with
    | err => rfl
    | exc e s => rfl
    | ok c s1 =>
      rw [q] at h
      dsimp only [R.toS_ok] at h ⊢
      cases c with
      | false => rfl
      | true =>
        rw [if_pos rfl] at h ⊢
        rw [if_pos rfl]
        cases q2 : g L s1 with
        | nx s2 => rw [q2] at h; exact wh_mono h hm'
        | ct s2 => rw [q2] at h; exact wh_mono h hm'
        | _ => rfl
theorem dWhile_eq {t : TV} {g : SV} {L : List Nat} {n : Nat} {ss : Sl} {r : RS} (h : whGo t g L n ss = r) (hr : r ≠ .err) : dWhile t g L ss = r := by
  have hn : whGo t g L n ss ≠ .err := by rw [h]; exact hr
  have ex : ∃ n, whGo t g L n ss ≠ .err := ⟨n, hn⟩
  unfold dWhile
  rw [dif_pos ex]
  have hc := Classical.choose_spec ex
  rcases Nat.le_total n (Classical.choose ex) with q | q
  · rw [wh_mono hn q, h]
  · rw [← wh_mono hc q, h]
theorem s_while {σ : St} {H : Hp} {Z : Ends} {t : TV} {g : SV} (h : tS K W L (dWhile t g) Z σ H) : tWhile (tT K W t) (tS K W L g) Z σ H := by
  obtain ⟨ss, Af, rp, h⟩ := h
  unfold dWhile at h
  split at h
  rotate_left
  · exact h.elim
  rename_i ex
  generalize Classical.choose ex = n at h
  refine ⟨fun m σ' H' => ∃ ss' Af', Rep K H' ss' σ' Af' ∧ WnS K L σ' H' (Own Af') W (whGo t g L m ss') Z, ⟨n, ss, Af, rp, h⟩, ?_⟩
  rintro m σ' H' ⟨ss', Af', r', h'⟩
  cases m with
  | zero => exact h'.elim
  | succ m =>
    unfold whGo at h'
    refine bindES Stp.refl (fun _ z => z) Lk.refl r' h' fun x v H1 s1 Af1 B1 e1 r1 l1 n1 d1 st1 h' => ?_
    obtain ⟨q, _⟩ := l1
    subst q
    have h' := h'.rebase (Af1 := Af1) st1 (fun b z => .inl z) (σ1 := σ') Lk.refl
    cases v with
    | false =>
      rw [if_neg Bool.false_ne_true] at h' ⊢
      exact h' σ' H1 ⟨Af1, r1, Stp.refl, Lk.refl⟩
    | true =>
      rw [if_pos rfl] at h' ⊢
      refine ⟨fun σ2 H2 => ∃ ss2 Af2, Rep K H2 ss2 σ2 Af2 ∧ WnS K L σ2 H2 (Own Af2) W (whGo t g L m ss2) Z, fun σ2 H2 q => ⟨m, Nat.lt_succ_self _, q⟩, s1, Af1, r1, ?_⟩
      cases q2 : g L s1 with
      | err => rw [q2] at h'; exact h'
      | nx s4 => rw [q2] at h'; exact fun σ4 H4 ⟨Af4, r4, st4, lk4⟩ => ⟨s4, Af4, r4, h'.rebase st4 (fun _ z => z) lk4⟩
      | ct s4 => rw [q2] at h'; exact fun σ4 H4 ⟨Af4, r4, st4, lk4⟩ => ⟨s4, Af4, r4, h'.rebase st4 (fun _ z => z) lk4⟩
      | bk s4 => rw [q2] at h'; exact h'
      | rt d s4 => rw [q2] at h'; exact h'
      | exc x s4 => rw [q2] at h'; exact h'
end
end Dn

set_option Elab.async false
set_option linter.all false
set_option maxRecDepth 100000
set_option maxHeartbeats 4000000
/-! Dn11b: raise, try. -/
namespace Dn
open PySem L2
variable [ZS]

def raiX (c fld : Str) (xs : List Vx) (ss : Sl) : RS := match xs with
  | [.val d] => if d.pure = true then .exc ⟨c, [fld], [d]⟩ ss else .err
  | _ => .err
def dRaise (c fld : Str) (f : EV) : SV := fun _ ss => (foldA [f] ss).toS (raiX c fld)
def noX (r : RS) : RS := match r with
  | .exc _ _ => .err
  | o => o
def lookM (m : List ((Str × Str) × Bool)) (x y : Str) : Option Bool := m.lookup (x, y)
def dTryO (body : SV) (m : List ((Str × Str) × Bool)) (y : Str) (suite : SV) : SV := fun L ss => match body L ss with
  | .exc e s1 => match lookM m e.c y with
    | some true => noX (suite L s1)
    | some false => .exc e s1
    | none => .err
  | o => o
def clrS (i : Nat) (r : RS) : RS := match r with
  | .nx ss => .nx (ss.set i none)
  | .bk ss => .bk (ss.set i none)
  | .ct ss => .ct (ss.set i none)
  | .rt d ss => .rt d (ss.set i none)
  | _ => .err
open Classical in
noncomputable def caught (i : Nat) (e : Ex) (suite : Nat → Nat → SV) (L : List Nat) (s1 : Sl) : RS :=
  if h : ∃ r, ∀ a dx, clrS i (suite a dx L (s1.set i (some (.exo a dx e.c e.ns e.ds)))) = r then choose h else .err
noncomputable def dTryA (body : SV) (m : List ((Str × Str) × Bool)) (y : Str) (i : Nat) (suite : Nat → Nat → Str → SV) : SV := fun L ss => match body L ss with
  | .exc e s1 => match lookM m e.c y with
    | some true => if i ∈ L ∨ s1.length ≤ i ∨ e.ns = [] then .err else caught i e (fun a dx => suite a dx e.c) L s1
    | some false => .exc e s1
    | none => .err
  | o => o

section
variable {K : PySem.W.Frag} {L : List Nat} {σ σ0 : St} {H H0 : Hp} {F0 F1 : Addr → Prop} {W : WX} {ss : Sl} {Af : Nat → List Addr} {Z : Ends}
theorem s_raise {c fld : Str} {f : EV} (h : tS K W L (dRaise c fld f) Z σ H) : Dx.tMkS (He.ga K c) fld (tA K W (foldA [f])) σ H (fun cls d H' => W cls d σ H') := by
  obtain ⟨ss, Af, r, h⟩ := h
  refine bindES Stp.refl (fun _ z => z) Lk.refl r h fun x v H1 s1 Af1 B1 e1 r1 l1 n1 d1 st1 h => ?_
  unfold raiX at h
  split at h
  · rename_i d
    split at h
    · rename_i p
      obtain ⟨u, q1, q2⟩ := layXL_1 l1
      have q2 : Lay K H1 d u B1 := q2
      have z := q2.emp p
      subst z
      refine ⟨u, q1, fun dx hdx => ?_⟩
      have sl := Stp.laid (H := H1) (F := Own Af1) (o := HO.xd [(fld, u)]) hdx
      refine h (.ref (He.ga K c)) (some dx) σ _ ⟨Af1, r1.laid hdx, ⟨rfl, .inr ⟨dx, [u], rfl, upd_same, rfl, LayL.cons0 (Lay.keep (Kp.new hdx) q2) LayL.nil⟩⟩, ?_, Lk.refl⟩
      exact (st1.trans sl fun b hb => .inl hb).sub fun b hb => .inl hb
    · exact h.elim
  · exact h.elim
theorem WnS.noX {r : RS} {W' : WX} (h : WnS K L σ0 H0 F0 W (noX r) Z) : WnS K L σ0 H0 F0 W' r Z := by
  cases r with
  | exc e s => exact h.elim
  | _ => exact h
theorem s_tryO {body suite : SV} {m : List ((Str × Str) × Bool)} {y : Str} (hm : ∀ x b, lookM m x y = some b → PySem.W.exmOne K (.ref (He.ga K x)) (.ref (He.ga K y)) = some b) (h : tS K W L (dTryO body m y suite) Z σ H) :
    tS K (wOnly K (.ref (He.ga K y)) (fun _ _ _ => tS K (fun _ _ _ _ => False) L suite) W Z) L body Z σ H := by
  obtain ⟨ss, Af, r, h⟩ := h
  refine ⟨ss, Af, r, ?_⟩
  unfold dTryO at h
  cases e : body L ss with
  | nx s => rw [e] at h; exact h
  | bk s => rw [e] at h; exact h
  | ct s => rw [e] at h; exact h
  | rt d s => rw [e] at h; exact h
  | err => rw [e] at h; exact h
  | exc x s1 =>
    rw [e] at h
    dsimp only at h
    rintro cls d σ' H' ⟨Af1, r1, ⟨ec, xl⟩, st1, lk1⟩
    subst ec
    cases q : lookM m x.c y with
    | none => rw [q] at h; exact h.elim
    | some b =>
      rw [q] at h
      refine ⟨b, hm _ _ q, fun hb a ha => ?_, fun hb => ?_⟩
      · subst hb
        exact ⟨s1, Af1, r1, (WnS.noX h).rebase st1 (fun _ z => z) lk1⟩
      · subst hb
        exact h _ d σ' H' ⟨Af1, r1, ⟨rfl, xl⟩, st1, lk1⟩
/-- behind the suite its name is gone -/
theorem WnS.clr {i : Nat} {r : RS} {W' : WX} (h : WnS K L σ0 H0 F0 W (clrS i r) Z) (hi : i ∉ L) (hl : i < σ0.length) : WnS K L σ0 H0 F0 W' r { nx := fun σ' H' => Z.nx (σ'.set i none) H', rt := Z.rt, bk := fun σ' H' => Z.bk (σ'.set i none) H', ct := fun σ' H' => Z.ct (σ'.set i none) H' } := by
  have lk2 : ∀ {σ' : St}, Lk L σ0 σ' → Lk L σ0 (σ'.set i none) := fun {σ'} lk j hj => by
    rw [List.getElem?_set_ne (fun z => hi (by rw [z]; exact hj))]
    exact lk j hj
  have rp : ∀ {s : Sl} {σ' : St} {H' : Hp} {Af : Nat → List Addr}, Rep K H' s σ' Af → Rep K H' (s.set i none) (σ'.set i none) (put Af i []) := fun {s σ' H' Af} r => by
    have r2 := Rep.clear i r
    refine ⟨by rw [List.length_set, List.length_set]; exact r.len, fun j d e => ?_, r2.emp, r2.nd, r2.dis, r2.nz, r2.zl⟩
    by_cases q : i = j
    · subst q
      by_cases hs : i < s.length
      · rw [List.getElem?_set_self hs] at e; cases e
      · rw [List.getElem?_eq_none (by simpa using hs)] at e; cases e
    · obtain ⟨v, h1, h2⟩ := r2.lay j d e
      exact ⟨v, by rw [List.getElem?_set_ne q]; exact h1, h2⟩
  cases r with
  | nx s => exact fun σ' H' ⟨Af, r, st, lk⟩ => h _ _ ⟨_, rp r, st.sub fun b hb => own_clear hb, lk2 lk⟩
  | bk s => exact fun σ' H' ⟨Af, r, st, lk⟩ => h _ _ ⟨_, rp r, st.sub fun b hb => own_clear hb, lk2 lk⟩
  | ct s => exact fun σ' H' ⟨Af, r, st, lk⟩ => h _ _ ⟨_, rp r, st.sub fun b hb => own_clear hb, lk2 lk⟩
  | rt d s => exact fun v H' ⟨σ', Af, B, r, l, n, dj, st, lk⟩ => h v H' ⟨_, _, B, rp r, l, n, fun a ha z => dj a ha (own_clear z), st.sub fun b hb => hb.imp own_clear id, lk2 lk⟩
  | exc e s => exact h.elim
  | err => exact h.elim
theorem s_tryA {body : SV} {suite : Nat → Nat → Str → SV} {m : List ((Str × Str) × Bool)} {y : Str} {i : Nat} (hm : ∀ x b, lookM m x y = some b → PySem.W.exmOne K (.ref (He.ga K x)) (.ref (He.ga K y)) = some b) (h : tS K W L (dTryA body m y i suite) Z σ H) :
    tS K (wAs K (.ref (He.ga K y)) i (fun a cls d D σ H => ∃ dx c, d = some dx ∧ cls = .ref (He.ga K c) ∧ tS K (fun _ _ _ _ => False) L (suite a dx c) D σ H) W Z) L body Z σ H := by
  obtain ⟨ss, Af, r, h⟩ := h
  refine ⟨ss, Af, r, ?_⟩
  unfold dTryA at h
  cases e : body L ss with
  | nx s => rw [e] at h; exact h
  | bk s => rw [e] at h; exact h
  | ct s => rw [e] at h; exact h
  | rt d s => rw [e] at h; exact h
  | err => rw [e] at h; exact h
  | exc x s1 =>
    rw [e] at h
    dsimp only at h
    rintro cls d σ' H' ⟨Af1, r1, ⟨ec, xl⟩, st1, lk1⟩
    subst ec
    cases q : lookM m x.c y with
    | none => rw [q] at h; exact h.elim
    | some b =>
      rw [q] at h
      refine ⟨b, hm _ _ q, fun hb a ha => ?_, fun hb => ?_⟩
      · subst hb
        dsimp only at h
        split at h
        · exact h.elim
        rename_i c
        have c1 : i ∉ L := fun z => c (.inl z)
        have c2 : i < s1.length := Nat.lt_of_not_le fun z => c (.inr (.inl z))
        have c3 : x.ns ≠ [] := fun z => c (.inr (.inr z))
        obtain ⟨dx, vs, ed, hx, hl, ll⟩ := xl.resolve_left c3
        subst ed
        unfold caught at h
        split at h
        rotate_left
        · exact h.elim
        rename_i ex
        have hr := Classical.choose_spec ex a dx
        rw [← hr] at h
        have lay : Lay K H' (.exo a dx x.c x.ns x.ds) (.ref a) [] := ⟨rfl, rfl, vs, hx, hl, ll⟩
        have r2 := r1.set lay List.nodup_nil (fun a z => nomatch z) (fun a z => nomatch z) c2
        have lk2 : Lk L σ (σ'.set i (some (.ref a))) := fun j hj => by
          rw [List.getElem?_set_ne (fun z => c1 (by rw [z]; exact hj))]
          exact lk1 j hj
        have len : i < (σ'.set i (some (V.ref a))).length := by rw [List.length_set, ← r1.len]; exact c2
        have h2 := h.rebase (Af1 := put Af1 i []) (σ1 := σ'.set i (some (.ref a))) st1 (fun b hb => own_clear hb) lk2
        exact ⟨dx, x.c, rfl, rfl, _, _, r2, WnS.clr h2 c1 len⟩
      · subst hb
        exact h _ d σ' H' ⟨Af1, r1, ⟨rfl, xl⟩, st1, lk1⟩
end
end Dn

set_option Elab.async false
set_option linter.all false
set_option maxRecDepth 100000
set_option maxHeartbeats 4000000
/-! Dn11c: a name whose object stands in a list, too, for some statements. -/
namespace Dn
open PySem L2

theorem wp_app0 {M : Model} {A : Around} {E : Value → Shared → Prop} {env : Env} {b : List Stmt} {Q : Flow → Shared → Prop} {Γ : PySem.Ctx} (hΓ : Γ.In A) : ∀ {a : List Stmt} {s : Shared} {p : Pos}, Sem.wp M Γ (execs a env) (fun f _ s' => match f with | .next => wpAny M A (execs b env) Q E s' | f => Q f s') (fun e _ s' => E e s') p s → Sem.wp M Γ (execs (a ++ b) env) (fun f _ s' => Q f s') (fun e _ s' => E e s') p s
  | [], s, p, h => h Γ p hΓ
  | st :: a, s, p, h => by
    rw [execs_cons, Sem.wp_bind'] at h
    show Sem.wp _ _ (execs (st :: (a ++ b)) env) _ _ _ _
    rw [execs_cons, Sem.wp_bind']
    refine Sem.wp_mono M Γ _ (fun f p' s' h' => ?_) (fun _ _ _ h' => h') _ _ h
    cases f <;> first | exact h' | exact wp_app0 hΓ h'
theorem pss_app {X : Cx} {a b : List Stmt} {t u : TS} (h1 : PSs X a t) (h2 : PSs X b u) : PSs X (a ++ b) (tSeq t u) := by
  refine ⟨fun pins s σ H D I h => ?_⟩
  intro Γ p hΓ
  refine wp_app0 hΓ ?_
  refine Sem.wp_mono _ Γ _ (fun f p' s' q => ?_) (fun _ _ _ h' => h') _ _ (h1.run pins s σ H { D with nx := u D } I h Γ p hΓ)
  cases f with
  | next =>
    obtain ⟨σ', H', I', q⟩ := q
    exact h2.run pins s' σ' H' D I' q
  | ret v => exact q
  | brk => exact q
  | cont => exact q

open Classical in
/-- what does not hang on where something stands -/
noncomputable def allA (f : Addr → RS) : RS := if h : ∃ r, ∀ a, f a = r then choose h else .err
theorem allA_eq {f : Addr → RS} {r : RS} (h : ∀ a, f a = r) : allA f = r := by
  have ex : ∃ r, ∀ a, f a = r := ⟨r, h⟩
  unfold allA
  rw [dif_pos ex]
  exact (Classical.choose_spec ex 0).symm.trans (h 0)
theorem allA_at {f : Addr → RS} (a : Addr) : allA f = f a ∨ allA f = .err := by
  unfold allA
  split
  · rename_i h
    exact .inl (Classical.choose_spec h a).symm
  · exact .inr rfl
def isRf (a : Addr) (o : Option D) : Bool := match o with
  | some (.rf b) => decide (b = a)
  | _ => false
def backX (i j m : Nat) (a : Addr) (s : Sl) (o p : Option (Option D)) : Option Sl := match o, p with
  | some (some (.ml es)), some (some d) => if isRf a es[m]? = true then some ((s.set j none).set i (some (.ml (es.set m d)))) else none
  | _, some none => some s
  | _, _ => none
def alBack (i j m : Nat) (a : Addr) (s : Sl) : Option Sl := backX i j m a s s[i]? s[j]?
def onO (o : Option Sl) (k : Sl → RS) : RS := match o with
  | some s => k s
  | none => .err
def alEnd (i j m : Nat) (a : Addr) (k : Sl → RS) (r : RS) : RS := match r with
  | .nx s => onO (alBack i j m a s) k
  | .bk s => onO (alBack i j m a s) .bk
  | .ct s => onO (alBack i j m a s) .ct
  | .rt d s => onO (alBack i j m a s) (.rt d)
  | .exc e s => onO (alBack i j m a s) (.exc e)
  | .err => .err
/-- the one name among the values at hand -/
def plcAt : Nat → List Vx → Option (Nat × Nat)
  | _, [] => none
  | m, .plc j :: _ => some (m, j)
  | m, .val _ :: r => plcAt (m + 1) r
noncomputable def alD (L : List Nat) (i j m : Nat) (S k : SV) (ds : List D) (s2 : Sl) (o : Option D) : RS := match o with
  | some d => if i ∈ L ∨ s2.length ≤ i ∨ s2.length ≤ j ∨ i = j ∨ sizeLine < ds.length ∨ d.pure = true then .err
      else allA fun a => alEnd i j m a (k L) (S (j :: L) ((s2.set i (some (.ml (ds.set m (.rf a))))).set j (some d)))
  | none => .err
noncomputable def alT (L : List Nat) (i j m : Nat) (S k : SV) (o : Option (List D × Sl)) : RS := match o with
  | some (ds, s2) => alD L i j m S k ds s2 ds[m]?
  | none => .err
noncomputable def alX (L : List Nat) (i : Nat) (S k : SV) (xs : List Vx) (s1 : Sl) (o : Option (Nat × Nat)) : RS := match o with
  | some (m, j) => alT L i j m S k (takeL xs s1)
  | none => .err
noncomputable def dAlL (i : Nat) (g : AV) (S k : SV) : SV := fun L ss => (g ss).toS fun xs s1 => alX L i S k xs s1 (plcAt 0 xs)

variable [ZS]
theorem plcAt_get : ∀ {xs : List Vx} {n m j : Nat}, plcAt n xs = some (m, j) → n ≤ m ∧ xs[m - n]? = some (.plc j)
  | [], n, m, j, h => by cases h
  | .plc j0 :: xs, n, m, j, h => by
    cases h
    exact ⟨Nat.le_refl _, by rw [Nat.sub_self]; rfl⟩
  | .val _ :: xs, n, m, j, h => by
    obtain ⟨h1, h2⟩ := plcAt_get (xs := xs) (n := n + 1) h
    refine ⟨by omega, ?_⟩
    have : m - n = (m - (n + 1)) + 1 := by omega
    rw [this]
    simpa using h2
section
variable {K : PySem.W.Frag} {H : Hp} {ss : Sl} {σ : St} {Af : Nat → List Addr}
theorem layXL_at : ∀ {xs : List Vx} {vs : List V} {B : List Addr} {m : Nat} {x : Vx}, LayXL K σ H xs vs B → xs[m]? = some x → ∃ v B', vs[m]? = some v ∧ LayX K σ H x v B'
  | [], vs, B, m, x, l, e => by simp at e
  | y :: xs, vs, B, 0, x, l, e => by
    obtain ⟨v, ws, B1, B2, e1, e2, l1, l2⟩ := l
    subst e1
    simp at e; subst e
    exact ⟨v, B1, rfl, l1⟩
  | y :: xs, vs, B, m + 1, x, l, e => by
    obtain ⟨v, ws, B1, B2, e1, e2, l1, l2⟩ := l
    subst e1
    obtain ⟨u, B', q1, q2⟩ := layXL_at (m := m) l2 (by simpa using e)
    exact ⟨u, B', by simpa using q1, q2⟩
theorem isRf_get {a : Addr} {o : Option D} (h : isRf a o = true) : o = some (.rf a) := by
  unfold isRf at h
  split at h
  · rw [of_decide_eq_true h]
  · cases h
theorem own_ref {d : D} {v : V} {A : List Addr} (h : d.pure = false) (l : Lay K H d v A) : ∃ a, v = .ref a := by
  cases d <;> first | cases h | skip
  · obtain ⟨a, vs, B, e, _⟩ := l; exact ⟨a, e⟩
  · obtain ⟨a, dx, vs, B, e, _⟩ := l; exact ⟨a, e⟩
  · obtain ⟨a, vs, e, _⟩ := l; exact ⟨a, e⟩
/-- the name's object goes back into the list -/
theorem alBack_ok {i j m : Nat} {a : Addr} {s s' : Sl} (r : Rep K H s σ Af) (h : alBack i j m a s = some s') (hj : σ[j]? = some (some (.ref a))) (ne : i ≠ j) : ∃ Af', Rep K H s' σ Af' ∧ ∀ b, Own Af' b → Own Af b := by
  unfold alBack backX at h
  split at h
  · rename_i es d e1 e2
    split at h
    rotate_left
    · cases h
    rename_i c
    cases h
    obtain ⟨v, hv, l, vs, B, ev, hl, ll, eA⟩ := r.lay i _ e1
    subst ev
    obtain ⟨u, hu, lu⟩ := r.lay j _ e2
    rw [hj] at hu; cases hu
    obtain ⟨w, B1, C, B2, q1, q2, q3, q4⟩ := LayL.at (i := m) ll (isRf_get c)
    obtain ⟨q5, q6⟩ := q3
    subst q6; subst q5; subst q2
    have hnd : (l :: (B1 ++ ([] ++ B2))).Nodup := by rw [← eA]; exact r.nd i
    obtain ⟨lB, nB⟩ := List.nodup_cons.mp hnd
    obtain ⟨p1, p2, p3⟩ := List.nodup_append.mp nB
    have oi : ∀ b, b = l ∨ b ∈ B1 ∨ b ∈ B2 → b ∈ Af i := fun b hb => by
      rw [eA]
      rcases hb with h | h | h
      · exact h ▸ List.mem_cons_self
      · exact List.mem_cons_of_mem _ (List.mem_append_left _ h)
      · exact List.mem_cons_of_mem _ (List.mem_append_right _ (List.mem_append_right _ h))
    have dj : ∀ b, b ∈ Af j → b ∉ Af i := fun b h1 h2 => ne (r.dis i j b h2 h1)
    have ll2 := q4 H d (.ref a) (Af j) (Kp.refl H) (fun _ _ _ e => e) lu
    have ev : vs.set m (.ref a) = vs := by
      have hk := (List.getElem?_eq_some_iff.mp q1)
      rw [← hk.2, List.set_getElem_self]
    rw [ev] at ll2
    have lay : Lay K H (.ml (es.set m d)) (.ref l) (l :: (B1 ++ (Af j ++ B2))) := ⟨l, vs, _, rfl, hl, ll2, rfl⟩
    have cs : ∀ b, b ∈ l :: (B1 ++ (Af j ++ B2)) → b ∈ Af i ∨ b ∈ Af j := fun b hb => by
      rcases List.mem_cons.mp hb with h | h
      · exact .inl (oi b (.inl h))
      · rcases List.mem_append.mp h with h | h
        · exact .inl (oi b (.inr (.inl h)))
        · rcases List.mem_append.mp h with h | h
          · exact .inr h
          · exact .inl (oi b (.inr (.inr h)))
    have nd : (l :: (B1 ++ (Af j ++ B2))).Nodup := by
      refine List.nodup_cons.mpr ⟨fun z => ?_, List.nodup_append.mpr ⟨p1, List.nodup_append.mpr ⟨r.nd j, (List.nodup_append.mp p2).2.1, fun b hb c hc e => ?_⟩, fun b hb c hc e => ?_⟩⟩
      · rcases List.mem_append.mp z with h | h
        · exact lB (List.mem_append_left _ h)
        · rcases List.mem_append.mp h with h | h
          · exact dj l h (oi l (.inl rfl))
          · exact lB (List.mem_append_right _ (List.mem_append_right _ h))
      · subst e; exact dj b hb (oi b (.inr (.inr hc)))
      · subst e
        rcases List.mem_append.mp hc with h | h
        · exact dj b h (oi b (.inr (.inl hb)))
        · exact p3 b hb b (List.mem_append_right _ h) rfl
    have rc := Rep.clear j r
    have hil : i < (s.set j none).length := by rw [List.length_set]; exact (List.getElem?_eq_some_iff.mp e1).1
    have rs := rc.set (i := i) lay nd (fun b hb => ?_) (fun b hb => ?_) hil
    · have es2 : σ.set i (some (.ref l)) = σ := by
        have hk := (List.getElem?_eq_some_iff.mp hv)
        rw [← hk.2, List.set_getElem_self]
      rw [es2] at rs
      refine ⟨_, rs, fun b hb => ?_⟩
      rcases own_put hb with q | q
      · exact own_clear q
      · exact (cs b q).elim (fun z => ⟨i, z⟩) fun z => ⟨j, z⟩
    · rcases cs b hb with q | q
      · right
        rw [put_ne ne]; exact q
      · exact .inl (put_out r q)
    · exact (cs b hb).elim (fun z => r.nz b ⟨i, z⟩) fun z => r.nz b ⟨j, z⟩
  · cases h; exact ⟨Af, r, fun _ z => z⟩
  · cases h
end
section
variable {K : PySem.W.Frag} {L : List Nat} {σ : St} {H : Hp} {W : WX} {D : Ends}
theorem s_alL {i : Nat} {g : AV} {S k : SV} (h : tS K W L (dAlL i g S k) D σ H) : ∃ L', tAsg (tLst (tA K W g)) (gName i) { D with nx := tSeq (tS K W L' S) (tS K W L k) D } σ H := by
  obtain ⟨ss, Af, r, h⟩ := h
  unfold dAlL at h
  cases e : g ss with
  | err => rw [e] at h; exact h.elim
  | exc x s1 =>
    rw [e] at h
    refine ⟨L, ⟨ss, Af, r, ?_⟩⟩
    rw [e]
    exact fun cls d H2 ⟨Af2, r2, x2, st2⟩ => h cls d σ H2 ⟨Af2, r2, x2, st2, Lk.refl⟩
  | ok xs s1 =>
    rw [e] at h
    have h : WnS K L σ H (Own Af) W (alX L i S k xs s1 (plcAt 0 xs)) D := h
    unfold alX at h
    split at h
    rotate_left
    · exact h.elim
    rename_i m j hp
    refine ⟨j :: L, ss, Af, r, ?_⟩
    rw [e]
    rintro vs H1 ⟨Af1, B1, r1, l1, n1, d1, st1⟩
    unfold alT at h
    split at h
    rotate_left
    · exact h.elim
    rename_i ds s2 ht
    unfold alD at h
    split at h
    rotate_left
    · exact h.elim
    rename_i d hd
    split at h
    · exact h.elim
    rename_i c
    have c1 : i ∉ L := fun z => c (.inl z)
    have c2 : i < s2.length := Nat.lt_of_not_le fun z => c (.inr (.inl z))
    have c2' : j < s2.length := Nat.lt_of_not_le fun z => c (.inr (.inr (.inl z)))
    have ne : i ≠ j := fun z => c (.inr (.inr (.inr (.inl z))))
    have c4 : ds.length ≤ sizeLine := Nat.le_of_not_lt fun z => c (.inr (.inr (.inr (.inr (.inl z)))))
    have c5 : d.pure = false := by
      cases q : d.pure with
      | false => rfl
      | true => exact absurd (.inr (.inr (.inr (.inr (.inr q))))) c
    obtain ⟨Af2, B2, r2, l2, m1, m2, m3, m4⟩ := take_ok r1 l1 n1 d1 ht
    obtain ⟨_, hx⟩ := plcAt_get hp
    rw [Nat.sub_zero] at hx
    obtain ⟨u, _, hu, _, hju⟩ := layXL_at l1 hx
    obtain ⟨w, X1, C, X2, q1, q2, q3, q4⟩ := LayL.at (i := m) l2 hd
    rw [hu] at q1; cases q1
    subst q2
    obtain ⟨a, ea⟩ := own_ref c5 q3
    subst ea
    rcases allA_at (f := fun a => alEnd i j m a (k L) (S (j :: L) ((s2.set i (some (.ml (ds.set m (.rf a))))).set j (some d)))) a with q | q
    rotate_left
    · rw [q] at h; exact h.elim
    rw [q] at h
    clear q
    refine ⟨by rw [LayL.len l2]; exact c4, fun p hp => ?_⟩
    show tS K W (j :: L) S { D with nx := tS K W L k D } (σ.set i (some (.ref p))) (upd H1 p (.lst vs))
    have np : ∀ b ∈ X1 ++ (C ++ X2), b ≠ p := fun b hb z => by
      obtain ⟨o, eo, _⟩ := LayL.mu ds vs _ l2 b hb
      rw [z, hp] at eo; cases eo
    have stp : Stp H1 (fun b => Own Af1 b ∨ b ∈ B1) (upd H1 p (.lst vs)) (fun b => (Own Af1 b ∨ b ∈ B1) ∨ b = p) := Stp.laid hp
    have stA : Stp H (Own Af) (upd H1 p (.lst vs)) (fun b => (Own Af1 b ∨ b ∈ B1) ∨ b = p) := st1.trans stp fun _ z => z
    have rp2 : Rep K (upd H1 p (.lst vs)) s2 σ Af2 := r2.laid hp
    have hk : ∀ b, b ≠ p → ∀ o, H1 b = some o → upd H1 p (.lst vs) b = some o := fun b n o eo => by rw [upd_ne n]; exact eo
    have ev : vs.set m (.ref a) = vs := by
      have hk := (List.getElem?_eq_some_iff.mp hu)
      rw [← hk.2, List.set_getElem_self]
    have ll := q4 (upd H1 p (.lst vs)) (.rf a) (.ref a) [] stp.kp (fun b hb o eo => hk b (np b (hb.elim (List.mem_append_left _) fun z => List.mem_append_right _ (List.mem_append_right _ z))) o eo) ⟨rfl, rfl⟩
    rw [ev, List.nil_append] at ll
    have lay : Lay K (upd H1 p (.lst vs)) (.ml (ds.set m (.rf a))) (.ref p) (p :: (X1 ++ X2)) := ⟨p, vs, _, rfl, upd_same, ll, rfl⟩
    obtain ⟨y1, y2, y3⟩ := List.nodup_append.mp m1
    obtain ⟨y4, y5, y6⟩ := List.nodup_append.mp y2
    have nd : (p :: (X1 ++ X2)).Nodup := List.nodup_cons.mpr ⟨fun z => (List.mem_append.mp z).elim (fun z => np p (List.mem_append_left _ z) rfl) fun z => np p (List.mem_append_right _ (List.mem_append_right _ z)) rfl,
      List.nodup_append.mpr ⟨y1, y5, fun b hb b' hb' => y3 b hb b' (List.mem_append_right _ hb')⟩⟩
    have inB : ∀ b, b ∈ X1 ++ X2 → b ∈ X1 ++ (C ++ X2) := fun b hb => (List.mem_append.mp hb).elim (List.mem_append_left _) fun z => List.mem_append_right _ (List.mem_append_right _ z)
    have z2 : ∀ b ∈ X1 ++ (C ++ X2), ¬ ZS.z b := fun b hb => (m4 b hb).elim (fun z => r1.nz b z) fun z => r.nzS st1 (.inr z)
    have pno : ¬ Own Af2 p := r2.fresh hp
    have rs := rp2.set (i := i) lay nd (fun b hb => .inl ((List.mem_cons.mp hb).elim (fun z => z ▸ pno) fun z => m2 b (inB b z))) (fun b hb => (List.mem_cons.mp hb).elim (fun z y => r1.zl b y (z ▸ hp)) fun z => z2 b (inB b z)) c2
    have lc : Lay K (upd H1 p (.lst vs)) d (.ref a) C := Lay.step stp.kp d _ C (fun b hb o eo => hk b (np b (List.mem_append_right _ (List.mem_append_left _ hb))) o eo) q3
    have rs2 := rs.set (i := j) lc y4 (fun b hb => .inl fun z => ?_) (fun b hb => z2 b (List.mem_append_right _ (List.mem_append_left _ hb))) (by rw [List.length_set]; exact c2')
    rotate_left
    · rcases own_put z with z | z
      · exact m2 b (List.mem_append_right _ (List.mem_append_left _ hb)) z
      · rcases List.mem_cons.mp z with z | z
        · exact np b (List.mem_append_right _ (List.mem_append_left _ hb)) z
        · rcases List.mem_append.mp z with z | z
          · exact y3 b z b (List.mem_append_left _ hb) rfl
          · exact y6 b hb b z rfl
    have hj2 : (σ.set i (some (V.ref p)))[j]? = some (some (.ref a)) := by rw [List.getElem?_set_ne ne]; exact hju
    have es2 : (σ.set i (some (V.ref p))).set j (some (.ref a)) = σ.set i (some (.ref p)) := by
      have hk := (List.getElem?_eq_some_iff.mp hj2)
      rw [← hk.2, List.set_getElem_self]
    rw [es2] at rs2
    refine ⟨_, _, rs2, ?_⟩
    have sub : ∀ b, Own (put (put Af2 i (p :: (X1 ++ X2))) j C) b → (Own Af1 b ∨ b ∈ B1) ∨ b = p := fun b hb => by
      have g1 : ∀ b, b ∈ X1 ++ (C ++ X2) → (Own Af1 b ∨ b ∈ B1) ∨ b = p := fun b hb => .inl (m4 b hb)
      rcases own_put hb with hb | hb
      · rcases own_put hb with hb | hb
        · exact .inl (.inl (m3 b hb))
        · rcases List.mem_cons.mp hb with hb | hb
          · exact .inr hb
          · exact g1 b (inB b hb)
      · exact g1 b (List.mem_append_right _ (List.mem_append_left _ hb))
    have lk0 : Lk L σ (σ.set i (some (.ref p))) := fun n hn => List.getElem?_set_ne (fun z : i = n => c1 (by rw [z]; exact hn))
    have lkT : ∀ {σ2 : St}, Lk (j :: L) (σ.set i (some (.ref p))) σ2 → Lk L σ σ2 := fun {σ2} lk => lk0.trans fun n hn => lk n (List.mem_cons_of_mem _ hn)
    have hjT : ∀ {σ2 : St}, Lk (j :: L) (σ.set i (some (.ref p))) σ2 → σ2[j]? = some (some (.ref a)) := fun {σ2} lk => (lk j List.mem_cons_self).trans hj2
    -- what the end of the statements gives
    have use : ∀ {s : Sl} {f : Sl → RS}, WnS K L σ H (Own Af) W (onO (alBack i j m a s) f) D → ∃ s', alBack i j m a s = some s' ∧ WnS K L σ H (Own Af) W (f s') D := fun {s f} w => by
      unfold onO at w
      split at w
      · exact ⟨_, ‹_›, w⟩
      · exact w.elim
    have stT : ∀ {H2 : Hp} {F : Addr → Prop}, Stp (upd H1 p (.lst vs)) (Own (put (put Af2 i (p :: (X1 ++ X2))) j C)) H2 F → Stp H (Own Af) H2 F := fun {H2 F} st => stA.trans st sub
    cases q : S (j :: L) ((s2.set i (some (.ml (ds.set m (.rf a))))).set j (some d)) with
    | err => rw [q] at h; exact h.elim
    | nx s =>
      rw [q] at h
      rintro σ2 H2 ⟨Af3, r3, st3, lk3⟩
      obtain ⟨s', e1, h⟩ := use h
      obtain ⟨Af4, r4, o4⟩ := alBack_ok r3 e1 (hjT lk3) ne
      exact ⟨s', Af4, r4, h.rebase (stT st3) (fun b hb => o4 b hb) (lkT lk3)⟩
    | bk s =>
      rw [q] at h
      rintro σ2 H2 ⟨Af3, r3, st3, lk3⟩
      obtain ⟨s', e1, h⟩ := use h
      obtain ⟨Af4, r4, o4⟩ := alBack_ok r3 e1 (hjT lk3) ne
      exact h σ2 H2 ⟨Af4, r4, (stT st3).sub o4, lkT lk3⟩
    | ct s =>
      rw [q] at h
      rintro σ2 H2 ⟨Af3, r3, st3, lk3⟩
      obtain ⟨s', e1, h⟩ := use h
      obtain ⟨Af4, r4, o4⟩ := alBack_ok r3 e1 (hjT lk3) ne
      exact h σ2 H2 ⟨Af4, r4, (stT st3).sub o4, lkT lk3⟩
    | rt d0 s =>
      rw [q] at h
      rintro v H2 ⟨σ2, Af3, B3, r3, y3, n3, d3, st3, lk3⟩
      obtain ⟨s', e1, h⟩ := use h
      obtain ⟨Af4, r4, o4⟩ := alBack_ok r3 e1 (hjT lk3) ne
      exact h v H2 ⟨σ2, Af4, B3, r4, y3, n3, fun b hb z => d3 b hb (o4 b z), (stT st3).sub fun b hb => hb.imp (o4 b) id, lkT lk3⟩
    | exc x s =>
      rw [q] at h
      rintro cls y σ2 H2 ⟨Af3, r3, x3, st3, lk3⟩
      obtain ⟨s', e1, h⟩ := use h
      obtain ⟨Af4, r4, o4⟩ := alBack_ok r3 e1 (hjT lk3) ne
      exact h cls y σ2 H2 ⟨Af4, r4, x3, (stT st3).sub o4, lkT lk3⟩
end
end Dn

set_option Elab.async false
set_option linter.all false
set_option maxRecDepth 100000
set_option maxHeartbeats 4000000
/-! Dn12: the denotation of statements, and that it is sound. -/
namespace Dn
open PySem L2
variable [ZS]

def isComp : Expr → Bool
  | .ListComp _ _ _ _ => true
  | .SetComp _ _ _ _ => true
  | .DictComp _ _ _ _ _ => true
  | _ => false
theorem swap_no {e : Expr} {t : Option Expr} {l : Nat} {env : Env} (h : isComp e = false) : swapsWith e t l env = pure false := by
  cases e <;> first | rfl | cases h
theorem swap_sole {ts : List Expr} {e : Expr} {l : Nat} {env : Env} (h : isComp e = false) : swapsWithSole ts e l env = pure false := by
  unfold swapsWithSole
  split
  · exact swap_no h
  · rfl
/-- unpacking -/
def isLc : Expr → Bool
  | .ListComp _ _ _ _ => true
  | _ => false
def isNm : Expr → Bool
  | .Name _ _ => true
  | _ => false
theorem swap_oth {ts : Expr} {e : Expr} {l : Nat} {env : Env} (h : isNm ts = false) : swapsWithSole [ts] e l env = pure false := by
  show swapsWith e (some ts) l env = pure false
  cases ts <;> first | (cases e <;> rfl) | cases h
def unpM (L : List Nat) (tg : Tg) (d : D) (ss : Sl) : RS := match tg, d with
  | .tp is, .mt ds => setMany L is (ds.map Vx.val) ss
  | _, _ => .err
def unpJ (L : List Nat) (tg : Tg) (j : Nat) (o : Option (Option D)) (ss : Sl) : RS := match o with
  | some (some d) => unpM L tg d (ss.set j none)
  | _ => .err
def unpV (L : List Nat) (tg : Tg) (d : D) (ss : Sl) : RS := match tgSet L tg d ss with
  | some s1 => .nx s1
  | none => .err
def unpX (L : List Nat) (tg : Tg) (x : Vx) (ss : Sl) : RS := match x with
  | .val d => if d.pure = true then unpV L tg d ss else unpM L tg d ss
  | .plc j => unpJ L tg j ss[j]? ss
def dUnp (tg : Tg) (f : EV) : SV := fun L ss => (f ss).toS (unpX L tg)
/-- is this the kind of a pair whose stores are turned? some true: turned; some false: plain; none: not told -/
def turned (C : Cc) (ts vs : List Expr) : Option Bool :=
  if ts.length = 2 ∨ ts.length = 3 then
    if vs.all (foldedForSure 8) = true then some false
    else if vs.all (constantsAlone 8) = true then none
    else match ts with
      | [.Name x p, .Name y q] => if C.sc.names.lookup x = some .local ∧ C.sc.names.lookup y = some .local ∧ x ≠ y ∧ p.line = q.line then some true else none
      | [.Name x p, .Name y q, .Name z r] => if C.sc.names.lookup x = some .local ∧ C.sc.names.lookup y = some .local ∧ C.sc.names.lookup z = some .local ∧ x ≠ y ∧ x ≠ z ∧ y ≠ z ∧ p.line = q.line ∧ p.line = r.line then some true else none
      | _ => none
  else some false
def isLcM (C : Cc) : Expr → Bool
  | .ListComp _ _ _ p => C.hn.lcm.contains p.line
  | _ => false
def asgE (C : Cc) (t : Expr) (e : Expr) (f : EV) (fs : List EV) (k : EV) : SV :=
  match t with
  | .Name x _ => match C.stS x with
    | some i => if (isComp e = true ∧ isLc e = false) ∨ isLcM C e = true then dErrS else dSet i f
    | none => dErrS
  | .Subscript (.Name x _) b _ => match C.slot x with
    | some i => if okName x = true ∧ isSlice b = false then dSetIx i k f else dErrS
    | none => dErrS
  | .Attribute (.Name x _) fl _ => match C.slot x with
    | some i => if okName x = true ∧ isComp e = false then dSetF C.fld i fl f else dErrS
    | none => dErrS
  | .Tuple ts kt pt => match tgOf C (.Tuple ts kt pt) with
    | some (.tp is) => match e with
      | .Tuple vs _ _ => if vs.all notStar = true ∧ vs.length = ts.length ∧ is.Nodup then match turned C ts vs with
          | some true => dPar is (foldA fs)
          | some false => if 4 ≤ is.length ∧ is.length ≤ 100 then dPar is (foldA fs) else dUnp (.tp is) f
          | none => dErrS
        else dErrS
      | _ => dUnp (.tp is) f
    | _ => dErrS
  | _ => dErrS
def tupOf : Expr → List Expr
  | .Tuple vs _ _ => vs
  | _ => []
def ixOf : Expr → Expr
  | .Subscript _ b _ => b
  | e => e

def Cc.su (C : Cc) (ex : Option (Nat × Nat × Str)) : Cc := { C with hot := true, ex := ex }
def raiE (C : Cc) (x : Str) (a : Expr) (f : EV) : SV := if C.hot = false ∧ C.glob x = true ∧ notStar a = true then match C.exc.lookup x with
    | some fld => dRaise x fld (dFrz f)
    | none => dErrS
  else dErrS
noncomputable def raiS (C : Cc) (e c : Option Expr) : SV := match e, c with
  | some (.Call (.Name x _) [a] [] _), none => raiE C x a (dnR C a).1
  | _, _ => dErrS
def known (m : List ((Str × Str) × Bool)) (y : Str) : Bool := m.any fun p => (lookM m p.1.1 y).isSome
theorem known_get {m : List ((Str × Str) × Bool)} {y : Str} (h : known m y = true) : ∃ x b, lookM m x y = some b := by
  obtain ⟨p, _, h⟩ := List.any_eq_true.mp h
  obtain ⟨b, e⟩ := Option.isSome_iff_exists.mp h
  exact ⟨_, b, e⟩
noncomputable def tryE (C : Cc) (hs : List ExceptHandler) (orelse fin : List Stmt) (body : SV) (su : Option (Nat × Nat × Str) → SV) : SV := match hs, orelse, fin with
  | [.ExceptHandler (some (.Name y _)) none (_ :: _) _], [], [] => if C.hot = false ∧ C.ex = none ∧ C.glob y = true ∧ known C.exm y = true then dTryO body C.exm y (su none) else dErrS
  | [.ExceptHandler (some (.Name y _)) (some n) (_ :: _) _], [], [] => if C.hot = false ∧ C.ex = none ∧ C.glob y = true ∧ known C.exm y = true ∧ C.sc.names.lookup n = some .local then match C.stS n with
      | some i => dTryA body C.exm y i (fun a dx c => su (some (a, dx, c)))
      | none => dErrS
    else dErrS
  | _, _, _ => dErrS
noncomputable def dnA (C : Cc) (e : Expr) : EV := if isLc e = true then (dn C e).1 else (dnR C e).1
/-- does this statement let a name's object stand in a list, too? -/
noncomputable def alOf (C : Cc) (s : Stmt) : Option (Nat × AV × Nat) := match s with
  | .Assign [.Name x _] (.List es _) p => match C.hn.al.lookup p.line, C.stS x with
    | some n, some i => if es.all notStar = true then some (i, foldA ((dnL C es).map fun q => dFrz q.1), n) else none
    | _, _ => none
  | _ => none
mutual
noncomputable def dS (C : Cc) : Stmt → SV
  | .Pass _ => dPass
  | .Break _ => dBreak
  | .Continue _ => dCont
  | .Expr e _ => if isComp e = true then dErrS else dDrop (dnR C e).1
  | .Return none _ => dRetN
  | .Return (some e) _ => dRet (dnR C e).1
  | .If c a b _ => dIf (dnR C c).2.1 (dSs C a) (dSs C b)
  | .Assign [t] e _ => asgE C t e (dnA C e) ((dnRL C (tupOf e)).map (·.1)) (dn C (ixOf t)).1
  | .AugAssign (.Name x _) op e _ => match C.stS x with
    | some i => dAug op i (dnR C e).1
    | none => dErrS
  | .While c b [] _ => dWhile (dnR C c).2.1 (dSs C b)
  | .For t it b [] _ => match tgOf C t with
    | some tg => if C.hot = false ∧ isSetE it = false ∧ (needT it = true → isTupE t = true) then dFor (dn C it).2.2 tg (dSs C b) else dErrS
    | none => dErrS
  | .Raise e c _ => raiS C e c
  | .Try body hs orelse fin _ => tryE C hs orelse fin (dSs C body) (fun ex => dH (C.su ex) hs)
  | _ => dErrS
noncomputable def dSs (C : Cc) : List Stmt → SV
  | [] => dPass
  | s :: ss => match ss with
    | [] => dS C s
    | _ => match alOf C s with
      | some (i, g, n) => dAlL i g (dSsT C ss n) (dSsD C ss n)
      | none => dSeq (dS C s) (dSs C ss)
/-- the first n statements -/
noncomputable def dSsT (C : Cc) : List Stmt → Nat → SV
  | [], _ => dPass
  | _ :: _, 0 => dPass
  | s :: ss, n + 1 => dSeq (dS C s) (dSsT C ss n)
/-- .. and those behind them -/
noncomputable def dSsD (C : Cc) : List Stmt → Nat → SV
  | [], _ => dPass
  | s :: ss, 0 => dSeq (dS C s) (dSsD C ss 0)
  | _ :: ss, n + 1 => dSsD C ss n
noncomputable def dH (C : Cc) : List ExceptHandler → SV
  | [] => dErrS
  | [.ExceptHandler _ _ b _] => dSs C b
  | _ => dErrS
end

structure GoodS (C : Cc) (X : Cx) (W : WX) : Prop extends Good C X W where
  po : PassesOwn (model X.prog X.w) X.A X.env X.xe
  kd : C.sc.kind = .function
  stk : X.stack = X.env :: X.outer
  frm : X.env.frame = some X.env.locals

section
variable {X : Cx} {W : WX} {C : Cc} {L : List Nat}
theorem _root_.L2.PS.of {st : Stmt} {t' : TS} (h : ∀ D σ H, t' D σ H → ∃ t, PS X st t ∧ t D σ H) : PS X st t' := ⟨fun pins s σ H D I hw => by
  obtain ⟨t, a, b⟩ := h D σ H hw
  exact a.run pins s σ H D I b⟩
theorem _root_.L2.PSs.of {st : List Stmt} {t' : TS} (h : ∀ D σ H, t' D σ H → ∃ t, PSs X st t ∧ t D σ H) : PSs X st t' := ⟨fun pins s σ H D I hw => by
  obtain ⟨t, a, b⟩ := h D σ H hw
  exact a.run pins s σ H D I b⟩
theorem _root_.L2.PS.impD {st : Stmt} {t t' : TS} (a : PS X st t) (h : ∀ D σ H, t' D σ H → t D σ H) : PS X st t' := .of fun D σ H q => ⟨t, a, h D σ H q⟩
theorem ps_errD {st : Stmt} : PS X st (tS X.K W L dErrS) := ⟨fun pins s σ H D I h => by obtain ⟨_, _, _, h⟩ := h; exact h.elim⟩
theorem gMany_of : ∀ {is : List Nat} {vs : List V} {σ : St} {H : Hp} {Q : St → Hp → Prop}, vs.length = is.length → Q ((is.zip vs).foldl (fun s p => s.set p.1 (some p.2)) σ) H → gMany is vs σ H Q
  | [], [], σ, H, Q, _, q => ⟨rfl, q⟩
  | [], v :: vs, σ, H, Q, e, q => by cases e
  | i :: is, [], σ, H, Q, e, q => by cases e
  | i :: is, v :: vs, σ, H, Q, e, q => ⟨v, vs, rfl, gMany_of (by simpa using e) q⟩
theorem layXL_vals {K : PySem.W.Frag} {σ : St} {H : Hp} : ∀ {ds : List D} {vs : List V} {B : List Addr}, LayL K H ds vs B → LayXL K σ H (ds.map Vx.val) vs B
  | [], vs, B, l => l
  | d :: ds, vs, B, l => by
    obtain ⟨v, ws, A1, A2, e1, e2, l1, l2⟩ := l
    exact ⟨v, ws, A1, A2, e1, e2, l1, layXL_vals l2⟩
theorem unpM_ok {tg : Tg} {d : D} {v : V} {B : List Addr} {D : Ends} {σ : St} {H H1 : Hp} {F0 F1 : Addr → Prop} {ss : Sl} {Af : Nat → List Addr} (s0 : Stp H F0 H1 F1) (hs : ∀ b, (Own Af b ∨ b ∈ B) → F1 b) (r : Rep X.K H1 ss σ Af) (l : Lay X.K H1 d v B) (n : B.Nodup) (dj : ∀ a ∈ B, ¬ Own Af a) (hz : ∀ a ∈ B, ¬ ZS.z a)
    (h : WnS X.K L σ H F0 W (unpM L tg d ss) D) : tgG X.K tg v σ H1 D.nx := by
  unfold unpM at h
  split at h
  · rename_i is ds
    obtain ⟨a, vs, e1, h1, h2⟩ := l
    obtain ⟨q1, q2⟩ := setMany_ok s0 hs Lk.refl r (layXL_vals h2) n dj hz h
    unfold tgG
    exact ⟨a, vs, e1, h1, q1, gMany_of q1 q2⟩
  · exact h.elim
theorem s_unp {tg : Tg} {f : EV} {D : Ends} {σ : St} {H : Hp} (h : tS X.K W L (dUnp tg f) D σ H) : tAsg (tE X.K W f) (tgG X.K tg) D σ H := by
  obtain ⟨ss, Af, r, h⟩ := h
  refine bindES Stp.refl (fun _ z => z) Lk.refl r h fun x v H1 s1 Af1 B1 e1 r1 l1 n1 d1 st1 h => ?_
  unfold unpX at h
  split at h
  · rename_i d
    split at h
    · rename_i p
      unfold unpV at h
      split at h
      · rename_i s2 e2
        have z := (show Lay X.K H1 d v B1 from l1).emp p
        subst z
        exact tg_ok r1 l1 e2 fun σ1 Af1 r2 o2 k2 => h σ1 H1 ⟨_, r2, st1.sub fun b hb => .inl (o2 b hb), k2⟩
      · exact h.elim
    · exact unpM_ok st1 (fun _ z => z) r1 l1 n1 d1 (fun a ha => r.nzS st1 (.inr ha)) h
  · rename_i j
    obtain ⟨z1, z2⟩ := l1
    subst z1
    unfold unpJ at h
    split at h
    · rename_i d e
      obtain ⟨v', w1, w2⟩ := r1.lay j d e
      rw [z2] at w1; cases w1
      have out : ∀ a, a ∈ Af1 j → ¬ Own (put Af1 j []) a := fun a ha ⟨k, hk⟩ => by
        by_cases z : k = j
        · subst z; rw [put_self] at hk; exact nomatch hk
        · rw [put_ne z] at hk; exact z (r1.dis k j a hk ha)
      exact unpM_ok st1 (fun b hb => hb.elim (fun z => .inl (own_clear z)) fun z => .inl ⟨j, z⟩) (Rep.clear j r1) w2 (r1.nd j) out (fun a ha => r1.nz a ⟨j, ha⟩) h
    · exact h.elim

/-! ### pairs -/
theorem bk_fun (G : GoodS C X W) : X.env.blockKind = .function := by
  unfold Env.blockKind
  rw [G.sc, G.kd]; rfl
theorem star_any : ∀ {vs : List Expr}, vs.all notStar = true → (vs.any fun | .Starred .. => true | _ => false) = false
  | [], _ => rfl
  | v :: vs, h => by
    obtain ⟨h1, h2⟩ := all_cons h
    rw [List.any_cons, star_any h2]
    cases v <;> first | rfl | cases h1
theorem turned_no (G : GoodS C X W) {ts vs : List Expr} {kt k2 : Nat} {pt p2 : Pos} (h : turned C ts vs = some false) (hs : vs.all notStar = true) : swappedStores [.Tuple ts kt pt] (.Tuple vs k2 p2) X.env = pure none := by
  unfold turned at h
  unfold swappedStores
  by_cases c : ts.length = 2 ∨ ts.length = 3
  · rw [if_pos c] at h
    by_cases f : vs.all (foldedForSure 8) = true
    · dsimp only
      repeat' first | rfl | (rw [if_pos f]) | split
    · rw [if_neg f] at h
      split at h
      · cases h
      · split at h <;> first | cases h | (split at h <;> cases h)
  · have c2 : (!(ts.length == 2 || ts.length == 3)) = true := by
      cases q1 : ts.length == 2 <;> cases q2 : ts.length == 3 <;> first | rfl | (exfalso; apply c; simp_all)
    dsimp only
    rw [if_pos (by rw [c2]; rfl)]
theorem turned_2 (G : GoodS C X W) {x y : Str} {p q : Pos} {vs : List Expr} {kt k2 : Nat} {pt p2 : Pos} (h : turned C [.Name x p, .Name y q] vs = some true) (hs : vs.all notStar = true) (hl : vs.length = 2) :
    C.sc.names.lookup x = some .local ∧ C.sc.names.lookup y = some .local ∧ x ≠ y ∧ swappedStores [.Tuple [.Name x p, .Name y q] kt pt] (.Tuple vs k2 p2) X.env = pure (some [x, y]) := by
  unfold turned at h
  rw [if_pos (.inl rfl)] at h
  by_cases f : vs.all (foldedForSure 8) = true
  · rw [if_pos f] at h; cases h
  rw [if_neg f] at h
  by_cases g : vs.all (constantsAlone 8) = true
  · rw [if_pos g] at h; cases h
  rw [if_neg g] at h
  dsimp only at h
  split at h
  rotate_left
  · cases h
  rename_i c
  obtain ⟨c1, c2, c3, c4⟩ := c
  refine ⟨c1, c2, c3, ?_⟩
  unfold swappedStores
  have e1 : X.env.kindOf x = some .local := by unfold Env.kindOf; rw [G.sc]; exact c1
  have e2 : X.env.kindOf y = some .local := by unfold Env.kindOf; rw [G.sc]; exact c2
  have n1 : (y == x) = false := by simpa using fun z => c3 z.symm
  dsimp only
  rw [if_neg (by rw [hl, bk_fun G]; exact Bool.false_ne_true)]
  split
  · rename_i z; exact absurd ((star_any hs).symm.trans z) Bool.false_ne_true
  · have l1 : ([Expr.Name x p, Expr.Name y q].head?.map (·.pos.line)).getD 0 = p.line := rfl
    rw [l1, List.filterMap_cons, List.filterMap_cons, List.filterMap_nil]
    dsimp only
    simp only [e1, e2, ← c4, beq_self_eq_true, Bool.and_self, if_true, List.eraseDups_cons, List.filter_cons, List.filter_nil, n1, Bool.not_false, List.eraseDups_nil, List.length_cons, List.length_nil, bne_self_eq_false, Bool.or_self, Bool.false_eq_true, if_false]
    try rw [if_neg f, if_neg g]
theorem turned_3 (G : GoodS C X W) {x y z : Str} {p q r : Pos} {vs : List Expr} {kt k2 : Nat} {pt p2 : Pos} (h : turned C [.Name x p, .Name y q, .Name z r] vs = some true) (hs : vs.all notStar = true) (hl : vs.length = 3) :
    (C.sc.names.lookup x = some .local ∧ C.sc.names.lookup y = some .local ∧ C.sc.names.lookup z = some .local) ∧ (x ≠ y ∧ x ≠ z ∧ y ≠ z) ∧ swappedStores [.Tuple [.Name x p, .Name y q, .Name z r] kt pt] (.Tuple vs k2 p2) X.env = pure (some [x, y, z]) := by
  unfold turned at h
  rw [if_pos (.inr rfl)] at h
  by_cases f : vs.all (foldedForSure 8) = true
  · rw [if_pos f] at h; cases h
  rw [if_neg f] at h
  by_cases g : vs.all (constantsAlone 8) = true
  · rw [if_pos g] at h; cases h
  rw [if_neg g] at h
  dsimp only at h
  split at h
  rotate_left
  · cases h
  rename_i c
  obtain ⟨c1, c2, c3, c4, c5, c6, c7, c8⟩ := c
  refine ⟨⟨c1, c2, c3⟩, ⟨c4, c5, c6⟩, ?_⟩
  unfold swappedStores
  have e1 : X.env.kindOf x = some .local := by unfold Env.kindOf; rw [G.sc]; exact c1
  have e2 : X.env.kindOf y = some .local := by unfold Env.kindOf; rw [G.sc]; exact c2
  have e3 : X.env.kindOf z = some .local := by unfold Env.kindOf; rw [G.sc]; exact c3
  have n1 : (y == x) = false := by simpa using fun z => c4 z.symm
  have n2 : (z == x) = false := by simpa using fun z => c5 z.symm
  have n3 : (z == y) = false := by simpa using fun z => c6 z.symm
  dsimp only
  rw [if_neg (by rw [hl, bk_fun G]; exact Bool.false_ne_true)]
  split
  · rename_i z; exact absurd ((star_any hs).symm.trans z) Bool.false_ne_true
  · have l1 : ([Expr.Name x p, Expr.Name y q, Expr.Name z r].head?.map (·.pos.line)).getD 0 = p.line := rfl
    rw [l1, List.filterMap_cons, List.filterMap_cons, List.filterMap_cons, List.filterMap_nil]
    dsimp only
    simp only [e1, e2, e3, ← c7, ← c8, beq_self_eq_true, Bool.and_self, if_true, List.eraseDups_cons, List.filter_cons, List.filter_nil, n1, n2, n3, Bool.not_false, List.eraseDups_nil, List.length_cons, List.length_nil, bne_self_eq_false, Bool.or_self, Bool.false_eq_true, if_false]
    try rw [if_neg f, if_neg g]
theorem par_two {i j : Nat} {ta : TA} {D : Ends} {σ : St} {H : Hp} {g : AV} (h : tParN [i, j] (tA X.K W g) D σ H) : tPar i j (tA X.K W g) D σ H := by
  obtain ⟨ss, Af, r, h⟩ := h
  refine ⟨ss, Af, r, ?_⟩
  revert h
  cases g ss with
  | err => exact id
  | exc e s => exact id
  | ok x s =>
    intro h v H1 q
    obtain ⟨hl, hn⟩ := h v H1 q
    match v, hl with
    | [a, b], _ => exact ⟨a, b, rfl, hn⟩
theorem par_three {i j l : Nat} {ta : TA} {D : Ends} {σ : St} {H : Hp} {g : AV} (h : tParN [i, j, l] (tA X.K W g) D σ H) : tPar3 i j l (tA X.K W g) D σ H := by
  obtain ⟨ss, Af, r, h⟩ := h
  refine ⟨ss, Af, r, ?_⟩
  revert h
  cases g ss with
  | err => exact id
  | exc e s => exact id
  | ok x s =>
    intro h v H1 q
    obtain ⟨hl, hn⟩ := h v H1 q
    match v, hl with
    | [a, b, c], _ => exact ⟨a, b, c, rfl, hn⟩
theorem names_2 (G : GoodS C X W) {x y : Str} {p q : Pos} {is : List Nat} (h : namesOf C [.Name x p, .Name y q] = some is) : ∃ i j, is = [i, j] ∧ X.N[i]? = some x ∧ X.N[j]? = some y := by
  unfold namesOf at h
  split at h
  · rename_i i is' h1 h2
    unfold namesOf at h2
    split at h2
    · rename_i j is'' h3 h4
      cases h4; cases h2; cases h
      exact ⟨i, j, rfl, (stS_loc G.toGood h1).1, (stS_loc G.toGood h3).1⟩
    · cases h2
  · cases h
theorem names_3 (G : GoodS C X W) {x y z : Str} {p q r : Pos} {is : List Nat} (h : namesOf C [.Name x p, .Name y q, .Name z r] = some is) : ∃ i j l, is = [i, j, l] ∧ X.N[i]? = some x ∧ X.N[j]? = some y ∧ X.N[l]? = some z := by
  unfold namesOf at h
  split at h
  · rename_i i is' h1 h2
    obtain ⟨j, l, e, h3, h4⟩ := names_2 G h2
    cases h; subst e
    exact ⟨i, j, l, rfl, (stS_loc G.toGood h1).1, h3, h4⟩
  · cases h
theorem swap_lc {elt : Expr} {gs : List Comprehension} {scope : Scope} {pos py : Pos} {y : Str} {l : Nat} {env : Env} :
    swapsWith (.ListComp elt gs scope pos) (some (.Name y py)) l env = pure (env.blockKind == .function && env.kindOf y == some .local && py.line == pos.line && !(scope.names.any fun (n, k) => n == y && (k == .local || k == .cell))) := rfl
theorem ps_setLcD (G : GoodS C X W) {y : Str} {py : Pos} {i : Nat} (hy : C.stS y = some i) {elt tg it : Expr} {ifs : List Expr} {a : Int} {scope : Scope} {pos spos : Pos} {f : IV} {tt : TV} {te : EV}
    (he0 : PE X (.ListComp elt [⟨tg, it, ifs, a⟩] scope pos) (tE X.K W (lcE C tg it a scope f tt te))) (hi : ∀ tg, (needT it = true → isTupE tg = true) → PI X tg it (tI X.K W f))
    (ht : ∀ {X' : Cx} {W' : WX}, Good (C.blk scope) X' W' → PTs X' ifs (tT X'.K W' tt)) (he : ∀ {X' : Cx} {W' : WX}, Good (C.blk scope) X' W' → PE X' elt (tE X'.K W' te)) :
    PS X (.Assign [.Name y py] (.ListComp elt [⟨tg, it, ifs, a⟩] scope pos) spos) (tS X.K W L (dSet i (lcE C tg it a scope f tt te))) := by
  obtain ⟨h1, h2, h3⟩ := stS_loc G.toGood hy
  have hN : X.N.Nodup := G.N ▸ G.nd
  cases sw : (X.env.blockKind == .function && X.env.kindOf y == some .local && py.line == pos.line && !(scope.names.any fun (n, k) => n == y && (k == .local || k == .cell))) with
  | false => exact (ps_set hN h1 h2 he0 (by rw [swap_lc, sw]) h3).impD fun _ _ _ h => s_set h
  | true =>
    have hl : X.env.scope.names.lookup y = some .local := by
      have z := sw
      simp only [Bool.and_eq_true] at z
      exact (eq_of_beq z.1.1.2 : X.env.kindOf y = some .local)
    exact .of fun D σ H h => by
      have h := s_set h
      obtain ⟨t, g1, hh, g2, ok, g3, g4, g5⟩ := lc_parts G.toGood (show tE X.K W (lcE C tg it a scope f tt te) σ H (fun x H1 => gName i x σ H1 D.nx) from h)
      subst g2
      exact ⟨_, ps_setLc (G.calm hh) hN h1 hl (by rw [swap_lc, sw]) (hi tg g4) ok (fun s H A cl fp => pg_tg (G.toGood.blk hh ok s H A cl fp) g1) (fun s H A cl fp => ht (G.toGood.blk hh ok s H A cl fp)) (fun s H A cl fp => pe_frzD (he (G.toGood.blk hh ok s H A cl fp))) (fold_no g3), s_lc g5⟩
theorem pe_dnA (G : Good C X W) (e : Expr) : PE X e (tE X.K W (dnA C e)) := by
  unfold dnA
  split
  · exact (dn_ok G e).1
  · exact (dnR_ok G e).1
theorem ps_setN (G : GoodS C X W) {y : Str} {py : Pos} {i : Nat} (hy : C.stS y = some i) {e : Expr} {pos : Pos} (hc : ¬ ((isComp e = true ∧ isLc e = false) ∨ isLcM C e = true)) : PS X (.Assign [.Name y py] e pos) (tS X.K W L (dSet i (dnA C e))) := by
  obtain ⟨h1, h2, h3⟩ := stS_loc G.toGood hy
  by_cases hl : isComp e = false
  · exact (ps_set (G.N ▸ G.nd) h1 h2 (pe_dnA G.toGood e) (swap_no hl) h3).impD fun _ _ _ h => s_set h
  · have hl : isLc e = true := by
      cases q : isLc e with
      | true => rfl
      | false => exact absurd (.inl ⟨by simpa using hl, q⟩) hc
    unfold dnA
    rw [if_pos hl]
    cases e with
    | ListComp elt gs scope p =>
      have e0 := (dn_ok G.toGood (.ListComp elt gs scope p)).1
      unfold dn at e0 ⊢
      split
      · rename_i tg it a _
        exact ps_setLcD G hy e0 (dn_ok G.toGood it).2.2 (fun G' => pts_nil.impD fun _ _ _ h => yes_of h) fun G' => (dn_ok G' elt).1
      · rename_i tg it c a _
        have hcm : ¬ C.hn.lcm.contains p.line = true := fun z => hc (.inr z)
        rw [if_neg hcm]
        dsimp only at e0
        rw [if_neg hcm] at e0
        exact ps_setLcD G hy e0 (dn_ok G.toGood it).2.2 (fun G' => pts_one (dn_ok G' c).2.1) fun G' => (dn_ok G' elt).1
      · exact ⟨fun pins s σ H D I h => by obtain ⟨_, _, _, h⟩ := h; exact h.elim⟩
    | _ => cases hl
/-- many values through a tuple -/
theorem s_parU {is : List Nat} {g : AV} {D : Ends} {σ : St} {H : Hp} (hn : is.length ≤ 100) (h : tS X.K W L (dPar is g) D σ H) : tAsg (tTup (tA X.K W g)) (tgG X.K (.tp is)) D σ H := by
  obtain ⟨ss, Af, r, h⟩ := h
  refine bindES Stp.refl (fun _ z => z) Lk.refl r h fun xs vs H1 s1 Af1 B1 e1 r1 l1 n1 d1 st1 h => ?_
  have hl : ∀ p, H1 p = none → vs.length = is.length ∧ D.nx ((is.zip vs).foldl (fun s p => s.set p.1 (some p.2)) σ) (upd H1 p (.tup vs)) := fun p hp => by
    have stp : Stp H1 (fun b => Own Af1 b ∨ b ∈ B1) (upd H1 p (.tup vs)) (fun b => Own Af1 b ∨ b ∈ B1) := (Stp.laid (o := .tup vs) hp).sub fun b hb => .inl hb
    exact setMany_ok (st1.trans stp fun _ z => z) (fun b z => z) Lk.refl (r1.laid hp) (LayXL.stay (F := fun _ => False) (Stp.laid (o := .tup vs) hp) xs vs B1 l1 fun _ _ z => z) n1 d1 (fun a ha => r.nzS st1 (.inr ha)) h
  obtain ⟨p0, hp0⟩ : ∃ p, H1 p = none ∨ ¬ ∃ p, H1 p = none := by
    by_cases q : ∃ p, H1 p = none
    · obtain ⟨p, hp⟩ := q; exact ⟨p, .inl hp⟩
    · exact ⟨0, .inr q⟩
  rcases hp0 with hp0 | no
  · obtain ⟨q1, _⟩ := hl p0 hp0
    refine ⟨by rw [q1, sizeLine_eq]; omega, fun p hp => ?_⟩
    obtain ⟨z1, z2⟩ := hl p hp
    unfold tgG
    exact ⟨p, vs, rfl, SqT.of upd_same, z1, gMany_of z1 z2⟩
  · obtain ⟨q1, _⟩ := setMany_ok st1 (fun b z => z) Lk.refl r1 l1 n1 d1 (fun a ha => r.nzS st1 (.inr ha)) h
    exact ⟨by rw [q1, sizeLine_eq]; omega, fun p hp => absurd ⟨p, hp⟩ no⟩
/-- an assignment -/
theorem ps_asgE (G : GoodS C X W) {t e : Expr} {pos : Pos} : PS X (.Assign [t] e pos) (tS X.K W L (asgE C t e (dnA C e) ((dnRL C (tupOf e)).map (·.1)) (dn C (ixOf t)).1)) := by
  have hN : X.N.Nodup := G.N ▸ G.nd
  unfold asgE
  split
  · rename_i x p
    split
    · rename_i i hi
      split
      · exact ps_errD
      · rename_i c
        exact ps_setN G hi c
    · exact ps_errD
  · rename_i x p b q
    split
    · rename_i i hi
      split
      · rename_i c
        obtain ⟨k1, k2⟩ := okName_spec c.1
        obtain ⟨h1, h2⟩ := slot_vis G.toGood hi
        have ha : ∀ v, assign (.Subscript (.Name x p) b q) X.env v = (do
            let ov ← holding [v] (eval (.Name x p) X.env)
            let iv ← holding [v, ov] (eval b X.env)
            standAt q
            holding [v, ov, iv] (setItem ov iv v)
            release [v, ov, iv] []) := by
          intro v
          have := c.2
          cases b <;> first | rfl | cases this
        exact (ps_asg (pe_dnA G.toGood e) (pg_sub (pe_var h1 h2 k1 k2) (dn_ok G.toGood b).1 set_list ha) (swap_oth rfl) (by
          unfold swappedStores
          cases e <;> rfl) rfl).impD fun _ _ _ h => s_setIx h
      · exact ps_errD
    · exact ps_errD
  · rename_i x p fl q
    split
    · rename_i i hi
      split
      · rename_i c
        obtain ⟨k1, k2⟩ := okName_spec c.1
        obtain ⟨h1, h2⟩ := slot_vis G.toGood hi
        exact (ps_fld (pe_var h1 h2 k1 k2) (pe_dnA G.toGood e) (swap_no c.2)).impD fun _ _ _ h => s_setF G.flo h
      · exact ps_errD
    · exact ps_errD
  · rename_i ts kt pt
    split
    · rename_i is hi
      split
      · rename_i vs k2 p2
        split
        · rename_i c
          obtain ⟨c1, c2, c3⟩ := c
          have hh : C.hot = false := by
            cases q : C.hot with
            | false => rfl
            | true =>
              unfold tgOf at hi
              rw [if_pos q] at hi
              cases hi
          have pa := pa_all (allD_e (dnRL_ok G.toGood vs)) c1
          split
          · rename_i ht
            have hn : namesOf C ts = some is := by
              unfold tgOf at hi
              rw [if_neg (by rw [hh]; exact Bool.false_ne_true)] at hi
              unfold orTn at hi
              split at hi
              · rename_i js q
                cases hi; exact q
              · cases q : tgsOf C ts with
                | none => rw [q] at hi; cases hi
                | some js => rw [q] at hi; cases hi
            have hts : (∃ x y p q, ts = [.Name x p, .Name y q]) ∨ (∃ x y z p q r, ts = [.Name x p, .Name y q, .Name z r]) := by
              unfold turned at ht
              split at ht
              · split at ht
                · cases ht
                · split at ht
                  · cases ht
                  · split at ht
                    · exact .inl ⟨_, _, _, _, rfl⟩
                    · exact .inr ⟨_, _, _, _, _, _, rfl⟩
                    · cases ht
              · cases ht
            rcases hts with ⟨x, y, p, q, e1⟩ | ⟨x, y, z, p, q, r, e1⟩
            · subst e1
              obtain ⟨i, j, e2, n1, n2⟩ := names_2 G hn
              subst e2
              obtain ⟨t1, t2, t3, t4⟩ := turned_2 (kt := kt) (pt := pt) (k2 := k2) (p2 := p2) G ht c1 c2
              have hij : i ≠ j := fun z => by subst z; rw [n1] at n2; cases n2; exact t3 rfl
              match vs, c2, pa, t4 with
              | [a, b], _, pa, t4 => exact (ps_par (G.calm hh) hN n1 n2 hij (by rw [G.sc]; exact t1) (by rw [G.sc]; exact t2) pa t4 rfl).impD fun _ _ _ h => par_two (ta := tA X.K W (foldA [])) (s_par h)
            · subst e1
              obtain ⟨i, j, l, e2, n1, n2, n3⟩ := names_3 G hn
              subst e2
              obtain ⟨⟨t1, t2, t3⟩, ⟨t4, t5, t6⟩, t7⟩ := turned_3 (kt := kt) (pt := pt) (k2 := k2) (p2 := p2) G ht c1 c2
              have hij : i ≠ j := fun z => by subst z; rw [n1] at n2; cases n2; exact t4 rfl
              have hil : i ≠ l := fun z => by subst z; rw [n1] at n3; cases n3; exact t5 rfl
              have hjl : j ≠ l := fun z => by subst z; rw [n2] at n3; cases n3; exact t6 rfl
              match vs, c2, pa, t7 with
              | [a, b, d], _, pa, t7 => exact (ps_par3 (G.calm hh) hN n1 n2 n3 hij hil hjl (by rw [G.sc]; exact t1) (by rw [G.sc]; exact t2) (by rw [G.sc]; exact t3) pa t7 rfl).impD fun _ _ _ h => par_three (ta := tA X.K W (foldA [])) (s_par h)
          · rename_i ht
            split
            · rename_i c4
              exact (ps_asg (pe_tup pa) (pg_tg G.toGood hi) (swap_oth rfl) (turned_no G ht c1) rfl).impD fun _ _ _ h => s_parU c4.2 h
            exact (ps_asg (pe_dnA G.toGood (.Tuple vs k2 p2)) (pg_tg G.toGood hi) (swap_oth rfl) (turned_no G ht c1) rfl).impD fun _ _ _ h => s_unp h
          · exact ps_errD
        · exact ps_errD
      · rename_i nt
        exact (ps_asg (pe_dnA G.toGood e) (pg_tg G.toGood hi) (swap_oth rfl) (by
          unfold swappedStores
          cases e <;> first | rfl | exact absurd rfl (nt _ _ _)) rfl).impD fun _ _ _ h => s_unp h
    · exact ps_errD
  · exact ps_errD
theorem GoodS.tr (G : GoodS C X W) {W' : WX} {pn : List (Addr × Obj)} {xe : Value → Shared → Prop} (hh : C.hot = false) (hex : C.ex = none) (tk : L2N.Takes (X.tr pn xe) W') (po : PassesOwn (model X.prog X.w) X.A X.env xe) : GoodS C (X.tr pn xe) W' :=
  ⟨⟨G.N, G.nd, G.sc, G.un, tk, G.calm, G.room, G.blt, G.cls, G.isi, G.nob, G.fnl, fun z => (by rw [hh] at z; cases z), fun z => (by rw [hh] at z; cases z), fun x e h => by
    obtain ⟨f, fd, F⟩ := G.fns x e h
    exact ⟨f, fd, F.mg, F.kp, F.bd, F.ok, F.okh, F.okm, F.kb⟩, G.flo, G.cst, G.exs, fun a dx c h => (by rw [hex] at h; cases h), G.isq, G.exq⟩, po, G.kd, G.stk, G.frm⟩
theorem GoodS.su (G : GoodS C X W) (hh : C.hot = false) {a : Addr} {oe : Obj} {cls : Value} {d : Option Addr} {pn : List (Addr × Obj)} {ex : Option (Nat × Nat × Str)} (hz : L2N.Zn cls d oe) (hv : ∃ vs, oe.data = .fields vs) (he : ∀ a' dx c, ex = some (a', dx, c) → a' = a ∧ L2N.Zn (.ref (He.ga X.K c)) (some dx) oe) : GoodS (C.su ex) (X.suite a ((a, oe) :: pn)) (fun _ _ _ _ => False) :=
  ⟨⟨G.N, G.nd, G.sc, G.un, fun u s' x => (by
    obtain ⟨a, B, sI, pins, σ, H, cls, d, e, I, nb, up, sky, na, os, ag, w⟩ := x
    exact w), fun h => (by cases h), fun h => (by cases h), G.blt, G.cls, G.isi, G.nob, G.fnl, fun _ => (by
      obtain ⟨vs, hv⟩ := hv
      exact ⟨(a, oe), ⟨rfl, vs, hv, hz.2.2 vs hv⟩, List.mem_cons_self⟩), fun _ => ⟨(G.room hh).dp, (G.room hh).un⟩, fun x e h => by
    obtain ⟨f, fd, F⟩ := G.fns x e h
    exact ⟨f, fd, F.mg, F.kp, F.bd, F.ok, F.okh, F.okm, F.kb⟩, G.flo, G.cst, G.exs, fun a' dx c h => (by
      obtain ⟨e1, e2⟩ := he a' dx c h
      subst e1
      exact ⟨X, oe, pn, rfl, e2, hv⟩), G.isq, G.exq⟩, fun _ _ h => h.elim, G.kd, G.stk, G.frm⟩
theorem names_of (G : GoodS C X W) {y : Str} (g : C.glob y = true) {x : Str} {b : Bool} (h : lookM C.exm x y = some b) : Names X y (.ref (He.ga X.K y)) :=
  ⟨(glob_gl G.toGood g).1, (glob_gl G.toGood g).2, .inl (G.exq x y b h).1⟩
theorem ps_raiS (G : GoodS C X W) {e c : Option Expr} {pos : Pos} : PS X (.Raise e c pos) (tS X.K W L (raiS C e c)) := by
  unfold raiS
  split
  · rename_i x p a q
    unfold raiE
    split
    · rename_i k
      obtain ⟨k1, k2, k3⟩ := k
      obtain ⟨g1, g2⟩ := glob_gl G.toGood k2
      split
      · rename_i fld hf
        obtain ⟨hm, ⟨fI, S⟩, T⟩ := G.exs x fld hf
        have pa : PA X [a] (tA X.K W (foldA [dFrz (dnR C a).1])) := pa_all (es := [a]) (fs := [dFrz (dnR C a).1]) ⟨pe_frzD (dnR_ok G.toGood a).1, trivial⟩ (by show (notStar a && true) = true; rw [k3]; rfl)
        exact (L2N.ps_raise (G.calm k1) G.tk (Dx.pmk_sx S (G.nob _ (by decide)) (G.room k1) g1 hm pa g2 (star_cons k3) rfl)).impD fun _ _ _ h => s_raise h
      · exact ps_errD
    · exact ps_errD
  · exact ps_errD
theorem ps_tryE (G : GoodS C X W) {body : List Stmt} {hs : List ExceptHandler} {orelse fin : List Stmt} {pos : Pos} {bd : SV} {su : Option (Nat × Nat × Str) → SV}
    (hb : ∀ {X' : Cx} {W' : WX}, GoodS C X' W' → PSs X' body (tS X'.K W' L bd))
    (hsu : ∀ {X' : Cx} {W' : WX} (ex : Option (Nat × Nat × Str)), GoodS (C.su ex) X' W' → ∀ t n b p, hs = [.ExceptHandler t n b p] → PSs X' b (tS X'.K W' L (su ex))) :
    PS X (.Try body hs orelse fin pos) (tS X.K W L (tryE C hs orelse fin bd su)) := by
  unfold tryE
  split
  · rename_i y np b0 br hp
    split
    · rename_i k
      obtain ⟨k1, k2, k3, k4⟩ := k
      obtain ⟨x, b, hx⟩ := known_get k4
      refine .of fun D σ H h => ⟨_, L2N.ps_try_many (l := [(.ref (He.ga X.K y), fun _ _ _ => tS X.K (fun _ _ _ _ => False) L (su none))]) (tb := fun W' => tS X.K W' L bd) G.stk G.frm G.tk (fun W' pn xe tk po => hb (G.tr k1 k2 tk po)) (.cons (names_of G k3 hx) (fun a oe cls d pn hz hv => ?_) .nil), s_tryO (fun x b h => (G.exq x y b h).2) h⟩
      exact hsu none (G.su k1 hz hv fun a' dx c h => (by cases h)) _ _ _ _ rfl
    · exact ps_errD
  · rename_i y np n b0 br hp
    split
    · rename_i k
      obtain ⟨k1, k2, k3, k5, k4⟩ := k
      split
      · rename_i i hi
        obtain ⟨h1, h2, h3⟩ := stS_loc G.toGood hi
        obtain ⟨x, b, hx⟩ := known_get k5
        · refine .of fun D σ H h => ⟨_, L2N.ps_try_as (i := i) (c := .ref (He.ga X.K y)) (ts := fun a cls d D σ H => ∃ dx c, d = some dx ∧ cls = .ref (He.ga X.K c) ∧ tS X.K (fun _ _ _ _ => False) L (su (some (a, dx, c))) D σ H) (tb := fun W' => tS X.K W' L bd)
            G.stk G.frm (G.N ▸ G.nd) h1 (by show X.env.scope.names.lookup n = some .local; rw [G.sc]; exact k4) (names_of G k3 hx) G.tk (fun W' pn xe tk po => hb (G.tr k1 k2 tk po)) (fun a oe cls d pn hz hv => ?_), s_tryA (fun x b h => (G.exq x y b h).2) h⟩
          refine .of fun D σ H q => ?_
          obtain ⟨dx, c, e1, e2, q⟩ := q
          subst e1; subst e2
          exact ⟨_, hsu (some (a, dx, c)) (G.su k1 hz hv fun a' dx' c' h => (by cases h; exact ⟨rfl, hz⟩)) _ _ _ _ rfl, q⟩
      · exact ps_errD
    · exact ps_errD
  · exact ps_errD
theorem al_parts (G : GoodS C X W) {s : Stmt} {i n : Nat} {g : AV} (h : alOf C s = some (i, g, n)) : ∃ t, PS X s t ∧ t = tAsg (tLst (tA X.K W g)) (gName i) := by
  unfold alOf at h
  split at h
  rotate_left
  · cases h
  rename_i x q es p2 p
  split at h
  rotate_left
  · cases h
  rename_i n' i' h1 h2
  split at h
  rotate_left
  · cases h
  rename_i ha
  cases h
  obtain ⟨k1, k2, k3⟩ := stS_loc G.toGood h2
  exact ⟨_, ps_set (G.N ▸ G.nd) k1 k2 (pe_lst (pa_all (allD_f (dnL_ok G.toGood es)) ha)) (swap_no rfl) k3, rfl⟩
mutual
theorem dS_ok {X : Cx} {W : WX} {C : Cc} (G : GoodS C X W) : ∀ (st : Stmt) (L : List Nat), PS X st (tS X.K W L (dS C st))
  | .Pass p, L => by unfold dS; exact ps_pass.impD fun _ _ _ h => s_pass h
  | .Break p, L => by unfold dS; exact ps_break.impD fun _ _ _ h => s_break h
  | .Continue p, L => by unfold dS; exact ps_continue.impD fun _ _ _ h => s_cont h
  | .Expr e p, L => by
    unfold dS
    split
    · exact ps_errD
    · rename_i hc
      exact (ps_expr (dnR_ok G.toGood e).1 (swap_no (by simpa using hc))).impD fun _ _ _ h => s_drop h
  | .Return none p, L => by unfold dS; exact ps_retN.impD fun _ _ _ h => s_retN h
  | .Return (some e) p, L => by unfold dS; exact (ps_ret (dnR_ok G.toGood e).1).impD fun _ _ _ h => s_ret h
  | .If c a b p, L => by unfold dS; exact (ps_if (dnR_ok G.toGood c).2.1 (dSs_ok G a L) (dSs_ok G b L)).impD fun _ _ _ h => s_if h
  | .Assign [t] e p, L => by unfold dS; exact ps_asgE G
  | .Assign [] e p, L => by unfold dS; exact ps_errD
  | .Assign (_ :: _ :: _) e p, L => by unfold dS; exact ps_errD
  | .AugAssign t op e p, L => by
    cases t with
    | Name x q =>
      unfold dS
      split
      · rename_i i hi
        obtain ⟨h1, h2, h3⟩ := stS_loc G.toGood hi
        exact (ps_aug (G.N ▸ G.nd) h1 h2 (dnR_ok G.toGood e).1 (pip_aug op) h3).impD fun _ _ _ h => s_aug h
      · exact ps_errD
    | _ => unfold dS; exact ps_errD
  | .While c b [] p, L => by unfold dS; exact (ps_while G.po (dnR_ok G.toGood c).2.1 (dSs_ok G b L)).impD fun _ _ _ h => s_while h
  | .While c b (_ :: _) p, L => by unfold dS; exact ps_errD
  | .For t it b [] p, L => by
    unfold dS
    split
    · rename_i tg ht
      split
      · rename_i c
        exact .of fun D σ H h => by
          obtain ⟨L', h⟩ := s_for h
          exact ⟨_, ps_for G.po (G.calm c.1) ((dn_ok G.toGood it).2.2 t c.2.2) (pg_tg G.toGood ht) (dSs_ok G b L') (fold_no c.2.1), h⟩
      · exact ps_errD
    · exact ps_errD
  | .For t it b (_ :: _) p, L => by unfold dS; exact ps_errD
  | .FunctionDef _ _ _ _ _ _ _ _ _ _, L => by unfold dS; exact ps_errD
  | .AsyncFunctionDef _ _ _ _ _ _ _ _ _ _, L => by unfold dS; exact ps_errD
  | .ClassDef _ _ _ _ _ _ _ _ _ _ _, L => by unfold dS; exact ps_errD
  | .Delete _ _, L => by unfold dS; exact ps_errD
  | .TypeAlias _ _ _ _ _ _ _, L => by unfold dS; exact ps_errD
  | .AnnAssign _ _ _ _ _, L => by unfold dS; exact ps_errD
  | .AsyncFor _ _ _ _ _, L => by unfold dS; exact ps_errD
  | .With _ _ _, L => by unfold dS; exact ps_errD
  | .AsyncWith _ _ _, L => by unfold dS; exact ps_errD
  | .Match _ _ _, L => by unfold dS; exact ps_errD
  | .Raise e c p, L => by unfold dS; exact ps_raiS G
  | .Try body hs orelse fin p, L => by unfold dS; exact ps_tryE G (fun G' => dSs_ok G' body L) fun ex G' t n b p e => dH_ok G' hs L t n b p e
  | .TryStar _ _ _ _ _, L => by unfold dS; exact ps_errD
  | .Assert _ _ _, L => by unfold dS; exact ps_errD
  | .Import _ _, L => by unfold dS; exact ps_errD
  | .ImportFrom _ _ _ _, L => by unfold dS; exact ps_errD
  | .Global _ _, L => by unfold dS; exact ps_errD
  | .Nonlocal _ _, L => by unfold dS; exact ps_errD
theorem dSs_ok {X : Cx} {W : WX} {C : Cc} (G : GoodS C X W) : ∀ (sts : List Stmt) (L : List Nat), PSs X sts (tS X.K W L (dSs C sts))
  | [], L => by unfold dSs; exact .of fun D σ H h => ⟨_, pss_nil, s_pass h⟩
  | [s], L => by unfold dSs; exact pss_one (dS_ok G s L)
  | s :: s' :: ss, L => by
    unfold dSs
    split
    · rename_i z; cases z
    split
    · rename_i i g n ha
      obtain ⟨t, pA, eA⟩ := al_parts G ha
      refine .of fun D σ H h => ?_
      obtain ⟨L', h⟩ := s_alL h
      refine ⟨_, pss_cons pA (?_ : PSs X (s' :: ss) (tSeq (tS X.K W L' (dSsT C (s' :: ss) n)) (tS X.K W L (dSsD C (s' :: ss) n)))), by rw [eA]; exact h⟩
      have := pss_app (dSsT_ok G (s' :: ss) n L') (dSsD_ok G (s' :: ss) n L)
      rw [List.take_append_drop] at this
      exact this
    · exact .of fun D σ H h => ⟨_, pss_cons (dS_ok G s L) (dSs_ok G (s' :: ss) L), s_seq h⟩
theorem dSsT_ok {X : Cx} {W : WX} {C : Cc} (G : GoodS C X W) : ∀ (sts : List Stmt) (n : Nat) (L : List Nat), PSs X (sts.take n) (tS X.K W L (dSsT C sts n))
  | [], n, L => by unfold dSsT; rw [List.take_nil]; exact .of fun D σ H h => ⟨_, pss_nil, s_pass h⟩
  | _ :: _, 0, L => by unfold dSsT; exact .of fun D σ H h => ⟨_, pss_nil, s_pass h⟩
  | s :: ss, n + 1, L => by unfold dSsT; exact .of fun D σ H h => ⟨_, pss_cons (dS_ok G s L) (dSsT_ok G ss n L), s_seq h⟩
theorem dSsD_ok {X : Cx} {W : WX} {C : Cc} (G : GoodS C X W) : ∀ (sts : List Stmt) (n : Nat) (L : List Nat), PSs X (sts.drop n) (tS X.K W L (dSsD C sts n))
  | [], n, L => by unfold dSsD; rw [List.drop_nil]; exact .of fun D σ H h => ⟨_, pss_nil, s_pass h⟩
  | s :: ss, 0, L => by unfold dSsD; exact .of fun D σ H h => ⟨_, pss_cons (dS_ok G s L) (dSsD_ok G ss 0 L), s_seq h⟩
  | s :: ss, n + 1, L => by unfold dSsD; exact dSsD_ok G ss n L
theorem dH_ok {X : Cx} {W : WX} {C : Cc} (G : GoodS C X W) : ∀ (hs : List ExceptHandler) (L : List Nat) (t : Option Expr) (n : Option Str) (b : List Stmt) (p : Pos), hs = [.ExceptHandler t n b p] → PSs X b (tS X.K W L (dH C hs))
  | [], L, t, n, b, p, e => by cases e
  | [.ExceptHandler t' n' b' p'], L, t, n, b, p, e => by
    cases e
    unfold dH
    exact dSs_ok G b' L
  | _ :: _ :: _, L, t, n, b, p, e => by cases e
end
end
end Dn

set_option Elab.async false
set_option linter.all false
set_option maxRecDepth 100000
set_option maxHeartbeats 4000000
/-! Dn13: a def of the text, the table of defs. -/
namespace Dn
open PySem L2 PyProof.Rows
variable [ZS]

def locksOf : Nat → List D → List Nat
  | _, [] => []
  | i, d :: ds => if d.pure = true then locksOf (i + 1) ds else i :: locksOf (i + 1) ds
def wbk : List D → Sl → Option (List D)
  | [], _ => some []
  | d :: ds, o :: ss => match (if d.pure = true then some d else o), wbk ds ss with
    | some e, some es => some (e :: es)
    | _, _ => none
  | _ :: _, [] => none
def endF (ds : List D) (r : RS) : RF := match r with
  | .nx ss => match wbk ds ss with
    | some as => .ok .non as
    | none => .err
  | .rt d ss => match wbk ds ss with
    | some as => .ok d as
    | none => .err
  | .exc e ss => match wbk ds ss with
    | some as => .exc e as
    | none => .err
  | _ => .err
def dFn (n N : Nat) (g : SV) : FV := fun ds => if ds.length = n ∧ n ≤ N then endF ds (g (locksOf 0 ds) (ds.map some ++ List.replicate (N - n) none)) else .err
theorem locks_mem : ∀ {ds : List D} {i k : Nat} {d : D}, ds[i]? = some d → d.pure ≠ true → k + i ∈ locksOf k ds
  | [], i, k, d, e, _ => by simp at e
  | d0 :: ds, 0, k, d, e, p => by
    simp at e; subst e
    unfold locksOf
    rw [if_neg p]
    exact List.mem_cons_self
  | d0 :: ds, i + 1, k, d, e, p => by
    have := locks_mem (k := k + 1) (show ds[i]? = some d by simpa using e) p
    rw [show k + (i + 1) = k + 1 + i by omega]
    unfold locksOf
    split
    · exact this
    · exact List.mem_cons_of_mem _ this
theorem wbk_spec : ∀ {ds : List D} {ss : Sl} {as : List D}, wbk ds ss = some as → as.length = ds.length ∧ ∀ (i : Nat) (d : D), ds[i]? = some d → (d.pure = true ∧ as[i]? = some d) ∨ (d.pure ≠ true ∧ ∃ e, ss[i]? = some (some e) ∧ as[i]? = some e)
  | [], ss, as, h => by
    cases h
    exact ⟨rfl, fun i d e => by simp at e⟩
  | d0 :: ds, [], as, h => by cases h
  | d0 :: ds, o :: ss, as, h => by
    unfold wbk at h
    split at h
    · rename_i e es h1 h2
      cases h
      obtain ⟨hl, hi⟩ := wbk_spec h2
      refine ⟨by simp [hl], fun i d hd => ?_⟩
      cases i with
      | zero =>
        simp at hd; subst hd
        by_cases p : d0.pure = true
        · rw [if_pos p] at h1; cases h1
          exact .inl ⟨p, rfl⟩
        · rw [if_neg p] at h1; subst h1
          exact .inr ⟨p, e, rfl, rfl⟩
      | succ i =>
        have := hi i d (by simpa using hd)
        simpa using this
    · cases h

section
variable {K : PySem.W.Frag} {H H' : Hp}
theorem start_rep {ds : List D} {vs : List V} {Af : Nat → List Addr} {N : List Str} (r : Rep K H (ds.map some) (vs.map some) Af) : Rep K H (ds.map some ++ List.replicate (N.length - ds.length) none) (L2.start N vs) Af := by
  have hl : ds.length = vs.length := by have := r.len; simpa using this
  have out : ∀ i, ds.length ≤ i → Af i = [] := fun i hi => r.emp i fun d e => by
    have := (List.getElem?_eq_some_iff.mp e).1
    simp at this; omega
  refine ⟨?_, fun i d e => ?_, fun i e => ?_, r.nd, r.dis, r.nz, r.zl⟩
  · unfold L2.start; simp [hl]
  · by_cases hi : i < ds.length
    · rw [List.getElem?_append_left (by simpa using hi)] at e
      obtain ⟨v, h1, h2⟩ := r.lay i d e
      refine ⟨v, ?_, h2⟩
      unfold L2.start
      rw [List.getElem?_append_left (by simpa using (hl ▸ hi))]
      exact h1
    · rw [List.getElem?_append_right (by simpa using hi), List.getElem?_replicate] at e
      split at e <;> cases e
  · by_cases hi : i < ds.length
    · refine r.emp i fun d q => e d ?_
      rw [List.getElem?_append_left (by simpa using hi)]
      exact q
    · exact out i (Nat.le_of_not_lt hi)
theorem end_rep {ds as : List D} {vs : List V} {Af0 Af1 : Nat → List Addr} {N : List Str} {ss : Sl} {σ' : L2.St} (r0 : Rep K H (ds.map some) (vs.map some) Af0) (r1 : Rep K H' ss σ' Af1) (kp : Kp H H') (lk : Lk (locksOf 0 ds) (L2.start N vs) σ') (w : wbk ds ss = some as) :
    ∃ Af', Rep K H' (as.map some) (vs.map some) Af' ∧ ∀ b, Own Af' b → Own Af1 b := by
  obtain ⟨hl, hi⟩ := wbk_spec w
  have hlv : ds.length = vs.length := by have := r0.len; simpa using this
  let imp : Nat → Bool := fun i => match ds[i]? with
    | some d => !d.pure
    | none => false
  let Af' : Nat → List Addr := fun i => if imp i = true then Af1 i else []
  have sub : ∀ i a, a ∈ Af' i → a ∈ Af1 i := fun i a h => by
    show a ∈ Af1 i
    by_cases c : imp i = true
    · simpa [Af', c] using h
    · simp [Af', c] at h
  refine ⟨Af', ⟨by simp [hl, hlv], fun i d e => ?_, fun i e => ?_, fun i => ?_, fun i j a h1 h2 => r1.dis i j a (sub i a h1) (sub j a h2), fun b ⟨i, h⟩ => r1.nz b ⟨i, sub i b h⟩, r1.zl⟩, fun b ⟨i, h⟩ => ⟨i, sub i b h⟩⟩
  · rw [List.getElem?_map] at e
    cases q : as[i]? with
    | none => rw [q] at e; cases e
    | some d' =>
      rw [q] at e; cases e
      have hlt : i < ds.length := hl ▸ (List.getElem?_eq_some_iff.mp q).1
      obtain ⟨d0, hd0⟩ : ∃ d0, ds[i]? = some d0 := ⟨_, List.getElem?_eq_getElem hlt⟩
      obtain ⟨v, v1, v2⟩ := r0.lay i d0 (by rw [List.getElem?_map, hd0]; rfl)
      rcases hi i d0 hd0 with ⟨p, a1⟩ | ⟨p, e', s1, a1⟩
      · rw [q] at a1; cases a1
        have z := v2.emp p
        have c : imp i = false := by simp [imp, hd0, p]
        refine ⟨v, v1, ?_⟩
        have : Af' i = [] := by simp [Af', c]
        rw [this]
        rw [z] at v2
        exact Lay.keep kp v2
      · rw [q] at a1; cases a1
        have c : imp i = true := by simp [imp, hd0, p]
        have : Af' i = Af1 i := by simp [Af', c]
        rw [this]
        obtain ⟨u, u1, u2⟩ := r1.lay i _ s1
        have l := lk i (by have := locks_mem (k := 0) hd0 p; simpa using this)
        have st : (L2.start N vs)[i]? = some (some v) := by
          unfold L2.start
          rw [List.getElem?_append_left (by simpa using (hlv ▸ hlt))]
          exact v1
        rw [st, u1] at l
        cases l
        exact ⟨_, v1, u2⟩
  · show Af' i = []
    by_cases c : imp i = true
    · exfalso
      have hlt : i < ds.length := by
        by_cases z : i < ds.length
        · exact z
        · simp [imp, List.getElem?_eq_none (Nat.le_of_not_lt z)] at c
      refine e (as[i]'(hl ▸ hlt)) ?_
      rw [List.getElem?_map, List.getElem?_eq_getElem (hl ▸ hlt)]
      rfl
    · simp [Af', c]
  · show (Af' i).Nodup
    by_cases c : imp i = true
    · simp [Af', c]; exact r1.nd i
    · simp [Af', c]
/-- the body's end is the def's end -/
theorem fn_end {n : Nat} {N : List Str} {g : SV} {vs : List V} {Q : VK} {E : XK} (h : spD K n (dFn n N.length g) vs H Q E) :
    ∃ L, tS K (fun cls d _ H => E cls d H) L g { nx := fun _ H' => Q .non H', rt := Q } (L2.start N vs) H := by
  obtain ⟨ds, Af, hl, r, h⟩ := h
  unfold dFn at h
  split at h
  rotate_left
  · exact h.elim
  rename_i c
  refine ⟨locksOf 0 ds, _, Af, start_rep (N := N) r, ?_⟩
  have e : (ds.map some ++ List.replicate (N.length - n) none : Sl) = ds.map some ++ List.replicate (N.length - ds.length) none := by rw [hl]
  rw [e] at h
  cases q : g (locksOf 0 ds) (ds.map some ++ List.replicate (N.length - ds.length) none) with
  | err => rw [q] at h; exact h.elim
  | bk s => rw [q] at h; exact h.elim
  | ct s => rw [q] at h; exact h.elim
  | nx ss =>
    rw [q] at h
    unfold endF at h
    dsimp only at h
    cases w : wbk ds ss with
    | none => rw [w] at h; exact h.elim
    | some as =>
      rw [w] at h
      rintro σ' H' ⟨Af1, r1, st, lk⟩
      obtain ⟨Af', r2, o2⟩ := end_rep r r1 st.kp lk w
      exact h .non H' ⟨Af', [], r2, ⟨rfl, rfl⟩, List.nodup_nil, fun a z => (nomatch z), st.sub fun b hb => hb.elim (o2 b) fun z => nomatch z⟩
  | rt d ss =>
    rw [q] at h
    unfold endF at h
    dsimp only at h
    cases w : wbk ds ss with
    | none => rw [w] at h; exact h.elim
    | some as =>
      rw [w] at h
      rintro v H' ⟨σ', Af1, B, r1, l, nd, dj, st, lk⟩
      obtain ⟨Af', r2, o2⟩ := end_rep r r1 st.kp lk w
      exact h v H' ⟨Af', B, r2, l, nd, fun a ha z => dj a ha (o2 a z), st.sub fun b hb => hb.elim (fun z => .inl (o2 b z)) .inr⟩
  | exc e ss =>
    rw [q] at h
    unfold endF at h
    dsimp only at h
    cases w : wbk ds ss with
    | none => rw [w] at h; exact h.elim
    | some as =>
      rw [w] at h
      rintro cls x σ' H' ⟨Af1, r1, xl, st, lk⟩
      obtain ⟨Af', r2, o2⟩ := end_rep r r1 st.kp lk w
      exact h cls x H' ⟨Af', r2, xl, st.sub fun b hb => o2 b hb⟩
end


/-! ### the module -/
structure FnM (P : Program) (w : World) (K : PySem.W.Frag) (mg : Str → Option Value) (base : Heap) (kw : List (Str × List Str)) (k : Nat) (p : FKey) (e : FnE) (f : Addr) (fd : FuncData) : Prop where
  hm : AtOk K mg p f
  kp : PySem.W.keepIn K (.ref f) = true
  bd : Binds K fd e.ps []
  ok : ∀ Z : ZS, FnOk P w K mg base (L2N.CX P w) k f fd e.ps (@spD Z K e.ps.length e.F)
  okh : ∀ Z : ZS, L2H.FnH P w K mg base (L2N.CX P w) k f fd e.ps (@spD Z K e.ps.length e.Fh)
  okm : p.2 = some ("__init__" : Str) → ∃ j, j + 1 ≤ k ∧ ∀ Z : ZS, FnOk P w K mg base (L2N.CX P w) j f fd e.ps (@spD Z K e.ps.length e.F)
  kb : ∀ ks, (p.1, ks) ∈ kw → p.2 = none → ∀ (s : Shared) (ws us : List Value), K.In s.heap → ws.length = ks.length → permL ks e.ps ws = some us → BindsTo s fd ⟨[], ks.zip ws⟩ (e.ps.zip us)
  ba : ∀ (s : Shared) (us : List Value), us.length = e.ps.length → BindsTo s fd ⟨us, []⟩ (e.ps.zip us)
  lk : ∃ (oc : Value) (od : Option Addr) (osl : Array (Option Value)), K.lookup f = some ⟨oc, od, .func fd, osl⟩
structure Md where
  cst : List (Str × D)
  exc : List (Str × Str)
  exm : List ((Str × Str) × Bool)
  isx : List ((Str × Str) × Bool)
  fld : List (Str × Str)
  chg : List Str
  hn : Hint
def ctx (N : List Str) (sc : Scope) (k : Nat) (fns : List (FKey × FnE)) (kw : List (Str × List Str)) (m : Md) (hot : Bool) : Cc := ⟨N, sc, k, fns, kw, m.cst, sc, m.exc, m.exm, m.isx, m.fld, m.chg, hot, none, m.hn⟩
structure ExF (P : Program) (K : PySem.W.Frag) (mg : Str → Option Value) (m : Md) : Prop where
  exc : ∀ x fld, m.exc.lookup x = some fld → mg x = some (.ref (He.ga K x)) ∧ (∃ fI, Dx.SxC P K (He.ga K x) fI fld) ∧ XfC K (He.ga K x)
  exm : ∀ x y b, m.exm.lookup (x, y) = some b → mg y = some (.ref (He.ga K y)) ∧ PySem.W.exmOne K (.ref (He.ga K x)) (.ref (He.ga K y)) = some b
  isx : ∀ x y b, m.isx.lookup (x, y) = some b → (if y = "ValueError" then mg y = none else mg y = some (.ref (He.ga K y))) ∧ XfC K (He.ga K x) ∧ IsC K (He.ga K x) ∧ PySem.W.kitOne K (.ref (He.ga K x)) (cvU K y) = some b
  fld : FlOk K m.fld
structure ModM (P : Program) (K : PySem.W.Frag) (mg : Str → Option Value) (cst : Md) : Prop where
  blt : ∀ b : Blt, mg b.name = none
  cls : ∀ c : Cl, mg c.sn = none
  isi : mg "isinstance" = none
  nob : ∀ x ∈ lateB, mg x = none
  ex : ExF P K mg cst
  cst : ∀ x d, cst.cst.lookup x = some d → ∃ u v, mg x = some u ∧ RelV v u ∧ flatD d = some v
end Dn
namespace Dn
open PySem L2 PyProof.Rows
section
variable {P : Program} {w : World} {K : PySem.W.Frag} {mg : Str → Option Value} {base : Heap} {kw : List (Str × List Str)} {m : Md}
theorem fn_okD [Z : ZS] {N ps : List Str} {sc : Scope} {k : Nat} {fns : List (FKey × FnE)} {x qual : Str} {params : Arguments} {body : List Stmt} {dvs : List V} {kws : List (Str × V)} {f : Addr} {fd : FuncData} (M : ModM P K mg m)
    (hf : ∀ y e, fns.lookup y = some e → ∃ f fd, FnM P w K mg base kw k y e f fd) (F : FunD K x qual params body sc dvs kws f fd) (S : FnScope N ps sc) :
    FnOk P w K mg base (L2N.CX P w) (k + 1) f fd ps (spD K ps.length (dFn ps.length N.length (dSs (ctx N sc k fns kw m false) body))) := by
  refine F.ok S (fun vs H Q E h => spD_len h) fun cdv A outer s H vs Q E hr h => ?_
  obtain ⟨L, h⟩ := fn_end h
  have un : (cxOf (L2N.CX P w) P w K mg base N qual sc f cdv A outer s H E).A.units + 200 < cLine := by
    have := hr.un
    show (A.deeper (envOfC qual sc s.heap.objs.size f cdv)).units + 200 < cLine
    omega
  have G : GoodS (ctx N sc k fns kw m false) (cxOf (L2N.CX P w) P w K mg base N qual sc f cdv A outer s H E) (fun cls d _ H => E cls d H) := by
    refine ⟨⟨rfl, S.nd, rfl, un, L2N.takes_of rfl rfl rfl rfl, fun _ => rfl, fun _ => hr, M.blt, M.cls, M.isi, M.nob, fun x h => ⟨h, .inl rfl⟩, fun z => (by cases z), fun z => (by cases z), fun y e he => ?_, M.ex.fld, M.cst, M.ex.exc, fun a dx c h => (by cases h), M.ex.isx, M.ex.exm⟩, PassesOwn.leaving, S.kind, rfl, rfl⟩
    obtain ⟨f', fd', F'⟩ := hf y e he
    exact ⟨f', fd', F'.hm, F'.kp, F'.bd, F'.ok, F'.okh, F'.okm, F'.kb⟩
  exact ⟨_, dSs_ok G body L, h⟩
theorem fn_okH [Z : ZS] {N ps : List Str} {sc : Scope} {k : Nat} {fns : List (FKey × FnE)} {x qual : Str} {params : Arguments} {body : List Stmt} {dvs : List V} {kws : List (Str × V)} {f : Addr} {fd : FuncData} (M : ModM P K mg m)
    (hf : ∀ y e, fns.lookup y = some e → ∃ f fd, FnM P w K mg base kw k y e f fd) (F : FunD K x qual params body sc dvs kws f fd) (S : FnScope N ps sc) :
    L2H.FnH P w K mg base (L2N.CX P w) (k + 1) f fd ps (spD K ps.length (dFn ps.length N.length (dSs (ctx N sc k fns kw m true) body))) := by
  obtain ⟨oc, od, dV, kV, doc, pm, an, cdv, ct, osl, e0, lk, hcd, hD, hK⟩ := F.ex
  subst e0
  refine L2H.fn_ofH lk hcd S (fun vs H Q E h => spD_len h) fun A outer s H vs Q E p hot hr h => ?_
  obtain ⟨L, h⟩ := fn_end h
  have un : (L2H.cxH (L2N.CX P w) P w K mg base N qual sc f cdv A outer s H E p).A.units + 200 < cLine := by
    have := hr.un
    show (A.deeper (envOfC qual sc s.heap.objs.size f cdv)).units + 200 < cLine
    omega
  have G : GoodS (ctx N sc k fns kw m true) (L2H.cxH (L2N.CX P w) P w K mg base N qual sc f cdv A outer s H E p) (fun cls d _ H => E cls d H) := by
    refine ⟨⟨rfl, S.nd, rfl, un, L2N.takes_of rfl rfl rfl rfl, fun z => (by cases z), fun z => (by cases z), M.blt, M.cls, M.isi, M.nob, fun x h => ⟨h, .inl rfl⟩, fun _ => ⟨p, hot, List.mem_cons_self⟩, fun _ => hr, fun y e he => ?_, M.ex.fld, M.cst, M.ex.exc, fun a dx c h => (by cases h), M.ex.isx, M.ex.exm⟩, PassesOwn.leaving, S.kind, rfl, rfl⟩
    obtain ⟨f', fd', F'⟩ := hf y e he
    exact ⟨f', fd', F'.hm, F'.kp, F'.bd, F'.ok, F'.okh, F'.okm, F'.kb⟩
  exact ⟨_, dSs_ok G body L, h⟩
theorem FnM.mono {j k : Nat} {x : FKey} {e : FnE} {f : Addr} {fd : FuncData} (F : FnM P w K mg base kw j x e f fd) (h : j ≤ k) : FnM P w K mg base kw k x e f fd :=
  ⟨F.hm, F.kp, F.bd, fun Z => (F.ok Z).mono h, fun Z => ⟨(F.okh Z).len, fun A outer s H args us vs Q E p hr => (F.okh Z).run A outer s H args us vs Q E p (hr.mono h)⟩, fun z => (F.okm z).imp fun i q => ⟨Nat.le_trans q.1 h, q.2⟩, F.kb, F.ba, F.lk⟩
end

/-! ### the table of defs -/
structure DI where
  nm : Str
  /-- its class, if it is a method -/
  cl : Option Str
  st : Stmt
  N : List Str
  ps : List Str
  fuel : Nat
def DI.key (d : DI) : FKey := match d.cl with
  | none => (d.nm, none)
  | some c => (c, some d.nm)
def DI.qual (d : DI) : Str := match d.cl with
  | none => d.nm
  | some c => c ++ ("." ++ d.nm)
def DI.lv (d : DI) : Nat := d.fuel + 2
def dErrF : FV := fun _ => .err
section
variable (kw : List (Str × List Str)) (m : Md)
noncomputable def DI.step (d : DI) (k : Nat) (fns : List (FKey × FnE)) (hot : Bool) : FV := dFn d.ps.length d.N.length (dSs (ctx d.N (defScope d.st) k fns kw m hot) (defBody d.st))
noncomputable def DI.loop (d : DI) (k : Nat) (fns : List (FKey × FnE)) : Nat → Bool → FV
  | 0, _ => dErrF
  | i + 1, hot => d.step kw m (k + i) ((d.key, ⟨d.ps, d.loop k fns i false, d.loop k fns i true⟩) :: fns) hot
noncomputable def DI.F (d : DI) (k : Nat) (fns : List (FKey × FnE)) (hot : Bool) : FV := match d.fuel with
  | 0 => d.step kw m k fns hot
  | i => d.loop kw m k fns i hot
def lev : List DI → Nat
  | [] => 0
  | d :: r => lev r + d.lv
noncomputable def tabR : List DI → List (FKey × FnE)
  | [] => []
  | d :: r => (d.key, ⟨d.ps, d.F kw m (lev r) (tabR r) false, d.F kw m (lev r) (tabR r) true⟩) :: tabR r
end
structure TabH (K : PySem.W.Frag) (mg : Str → Option Value) (kw : List (Str × List Str)) (d : DI) : Prop where
  fn : ∃ f fd, AtOk K mg d.key f ∧ FunD K d.nm d.qual (defArgs d.st) (defBody d.st) (defScope d.st) [] [] f fd
  sc : FnScope d.N d.ps (defScope d.st)
  nf : d.fuel = 0 ∨ d.key.2 ≠ some ("__init__" : Str)
  bd : ∀ (kV doc pm : Value) (an : Option Addr) (cdv ct : Value) (us : List Value), us.length = d.ps.length → bindArgs (PySem.W.fnOf d.nm d.qual (defArgs d.st) (defBody d.st) (defScope d.st) .none kV doc pm an cdv ct) ⟨us, []⟩ = pure (d.ps.zip us)
  kb : ∀ ks, (d.nm, ks) ∈ kw → d.cl = none → ∀ (kV doc pm : Value) (an : Option Addr) (cdv ct : Value) (ws us : List Value), ws.length = ks.length → permL ks d.ps ws = some us →
    bindArgs (PySem.W.fnOf d.nm d.qual (defArgs d.st) (defBody d.st) (defScope d.st) .none kV doc pm an cdv ct) ⟨[], ks.zip ws⟩ = pure (d.ps.zip us)
section
variable {P : Program} {w : World} {K : PySem.W.Frag} {mg : Str → Option Value} {base : Heap} {kw : List (Str × List Str)} {m : Md}
theorem lookup_cons' {α β : Type} [BEq β] [LawfulBEq β] {x y : β} {e e0 : α} {l : List (β × α)} (h : List.lookup y ((x, e0) :: l) = some e) : (y = x ∧ e = e0) ∨ l.lookup y = some e := by
  rw [List.lookup_cons] at h
  split at h
  · rename_i c
    cases h
    exact .inl ⟨by simpa using c, rfl⟩
  · exact .inr h
theorem FnH_no {f : Addr} {fd : FuncData} {ps : List Str} {k : Nat} : ∀ Z : ZS, L2H.FnH P w K mg base (L2N.CX P w) k f fd ps (@spD Z K ps.length dErrF) := fun Z => ⟨fun vs H Q E h => spD_len h, fun A outer s H args us vs Q E p _ _ _ _ _ _ h => by obtain ⟨_, _, _, _, h⟩ := h; exact h.elim⟩
theorem FnOk_no {f : Addr} {fd : FuncData} {ps : List Str} {k : Nat} : ∀ Z : ZS, FnOk P w K mg base (L2N.CX P w) k f fd ps (@spD Z K ps.length dErrF) := fun Z => ⟨fun vs H Q E h => spD_len h, fun A outer s H args us vs Q E _ _ _ _ h => by obtain ⟨_, _, _, _, h⟩ := h; exact h.elim⟩
theorem tab_ok (M : ModM P K mg m) : ∀ {l : List DI}, (∀ d ∈ l, TabH K mg kw d) → ∀ y e, (tabR kw m l).lookup y = some e → ∃ f fd, FnM P w K mg base kw (lev l) y e f fd
  | [], _, y, e, h => by cases h
  | d :: r, hl, y, e, h => by
    have ih := tab_ok M (l := r) fun d' hd => hl d' (List.mem_cons_of_mem _ hd)
    rcases lookup_cons' h with ⟨h1, h2⟩ | h
    rotate_left
    · obtain ⟨f, fd, F⟩ := ih y e h
      exact ⟨f, fd, F.mono (by show lev r ≤ lev r + _; omega)⟩
    subst h1; subst h2
    have T := hl d List.mem_cons_self
    obtain ⟨f, fd, hm, F⟩ := T.fn
    have kb : ∀ ks, (d.key.1, ks) ∈ kw → d.key.2 = none → ∀ (s : Shared) (ws us : List Value), K.In s.heap → ws.length = ks.length → permL ks d.ps ws = some us → BindsTo s fd ⟨[], ks.zip ws⟩ (d.ps.zip us) := fun ks hk hk2 s ws us _ h1 h2 => by
      have hcl : d.cl = none := by
        cases q : d.cl with
        | none => rfl
        | some c => unfold DI.key at hk2; rw [q] at hk2; cases hk2
      have hk' : (d.nm, ks) ∈ kw := by
        unfold DI.key at hk
        rw [hcl] at hk
        exact hk
      obtain ⟨oc, od, dV, kV, doc, pm, an, cdv, ct, osl, rfl, lk, hcd, hD, hK⟩ := F.ex
      rcases hD with ⟨_, rfl⟩ | ⟨z, _⟩
      · exact .of_eq (T.kb ks hk' hcl kV doc pm an cdv ct ws us h1 h2)
      · exact absurd rfl z
    have bd : Binds K fd d.ps [] := F.bindsN T.bd
    have ba := fun s us hl => F.bindsA T.bd s us hl
    have lk : ∃ (oc : Value) (od : Option Addr) (osl : Array (Option Value)), K.lookup f = some ⟨oc, od, .func fd, osl⟩ := by
      obtain ⟨oc, od, dV, kV, doc, pm, an, cdv, ct, osl, z1, z2, _⟩ := F.ex
      exact ⟨oc, od, osl, z2⟩
    have main : d.key.2 ≠ some ("__init__" : Str) → ∀ i, FnM P w K mg base kw (lev r + i) d.key ⟨d.ps, d.loop kw m (lev r) (tabR kw m r) i false, d.loop kw m (lev r) (tabR kw m r) i true⟩ f fd := by
      intro ni i
      induction i with
      | zero => exact ⟨hm, F.kp, bd, FnOk_no, FnH_no, fun z => absurd z ni, kb, ba, lk⟩
      | succ i ihm =>
        have tb : ∀ y e, List.lookup y ((d.key, (⟨d.ps, d.loop kw m (lev r) (tabR kw m r) i false, d.loop kw m (lev r) (tabR kw m r) i true⟩ : FnE)) :: tabR kw m r) = some e → ∃ f fd, FnM P w K mg base kw (lev r + i) y e f fd := fun y e he => by
          rcases lookup_cons' he with ⟨h1, h2⟩ | he
          · subst h1; subst h2
            exact ⟨f, fd, ihm⟩
          · obtain ⟨f', fd', F'⟩ := ih y e he
            exact ⟨f', fd', F'.mono (Nat.le_add_right (lev r) i)⟩
        exact ⟨hm, F.kp, bd, fun Z => fn_okD (Z := Z) M tb F T.sc, fun Z => fn_okH (Z := Z) M tb F T.sc, fun z => absurd z ni, kb, ba, lk⟩
    show ∃ f' fd', FnM P w K mg base kw (lev r + d.lv) d.key ⟨d.ps, d.F kw m (lev r) (tabR kw m r) false, d.F kw m (lev r) (tabR kw m r) true⟩ f' fd'
    refine ⟨f, fd, ?_⟩
    unfold DI.F
    split
    · rename_i q
      exact ⟨hm, F.kp, bd, fun Z => (fn_okD (Z := Z) M ih F T.sc).mono (by unfold DI.lv; omega), fun Z => by
        have z := fn_okH (Z := Z) M ih F T.sc
        exact ⟨z.len, fun A outer s H args us vs Q E p hr => z.run A outer s H args us vs Q E p (hr.mono (by unfold DI.lv; omega))⟩, fun _ => ⟨lev r + 1, by unfold DI.lv; omega, fun Z => fn_okD (Z := Z) M ih F T.sc⟩, kb, ba, lk⟩
    · rename_i nz
      exact (main (T.nf.resolve_left nz) d.fuel).mono (by unfold DI.lv; omega)
end
end Dn

set_option Elab.async false
set_option linter.all false
set_option maxRecDepth 100000
set_option maxHeartbeats 4000000
/-! Dx4: the Hook of defs, facts and exception classes. -/
namespace Dx
open PySem PySem.Spec PyProof.Rows L2 He
def refsX (o : Obj) : List Addr := refsO o ++ match o.data with
  | .func fd => fd.closure.map (·.2)
  | _ => []
def growX (g : Addr → Option Obj) (as : List Addr) : List Addr := (as ++ as.flatMap fun a => match g a with
  | some o => refsX o
  | none => []).eraseDups
def asX (g : Addr → Option Obj) : Nat → List Addr
  | 0 => [mainGlobals, cStatics]
  | n + 1 => growX g (asX g n)
abbrev AlX : Type := AlD × (Bool × List XV)
/-- a pair of isinstance -/
def isxB (K : PySem.W.Frag) (q : (Str × Str) × Bool) : Bool := Dn.isB K (ga K q.1.1) && (xfB K (ga K q.1.1) && decide (PySem.W.kitOne K (.ref (ga K q.1.1)) (Dn.cvU K q.1.2) = some q.2))
abbrev Isx := List ((Str × Str) × Bool)
def obsX (fa : List Fa) (fn : List DefD) (ex : List XD) (isx : Isx) (file : Str) (K : PySem.W.Frag) : AlX := (obsD fa fn K, ((ex.all fun d => xB file K d) && isx.all (isxB K), ex.map fun d => xObs K d))
def valX (fn : List DefD) (ex : List XD) : AlX := (valD fn, (true, ex.map XD.val))
def SaysX (fa : List Fa) (fn : List DefD) (ex : List XD) (isx : Isx) (file : Str) (K : PySem.W.Frag) : Prop := obsX fa fn ex isx file K = valX fn ex
def obsXG (n : Nat) (fa : List Fa) (fn : List DefD) (ex : List XD) (isx : Isx) (file : Str) (g : Addr → Option Obj) : AlX := obsX fa fn ex isx file (frG g (asX g n))
def hookX (n : Nat) (fa : List Fa) (fn : List DefD) (ex : List XD) (isx : Isx) (file : Str) : PySem.W.Hook where
  α := AlX
  obs := fun s => obsXG n fa fn ex isx file s.heap.get?
  val := fun _ => valX fn ex
  says := fun _ h => ∃ K : PySem.W.Frag, K.In h ∧ SaysX fa fn ex isx file K
  of := fun _ _ e => ⟨_, frG_in, e⟩
  keeps := fun _ _ _ ⟨K, hK, c⟩ k => ⟨K, PySem.W.Frag.In.keeps hK k, c⟩
theorem obsXG_eq {n : Nat} {fa : List Fa} {fn : List DefD} {ex : List XD} {isx : Isx} {file : Str} {g : Addr → Option Obj} {s : Shared} (h : ∀ a, g a = s.heap.get? a) : obsXG n fa fn ex isx file g = (hookX n fa fn ex isx file).obs s := by
  have e : g = s.heap.get? := funext h
  rw [e] <;> rfl
theorem SaysX.d {fa : List Fa} {fn : List DefD} {ex : List XD} {isx : Isx} {file : Str} {K : PySem.W.Frag} (c : SaysX fa fn ex isx file K) : SaysD fa fn K := congrArg (fun z : AlX => z.1) c
theorem SaysX.x {fa : List Fa} {fn : List DefD} {ex : List XD} {isx : Isx} {file : Str} {K : PySem.W.Frag} (c : SaysX fa fn ex isx file K) {d : XD} (h : d ∈ ex) : xB file K d = true ∧ xObs K d = d.val := by
  have c1 : (ex.all fun d => xB file K d) = true := (ba (show ((ex.all fun d => xB file K d) && isx.all (isxB K)) = true from congrArg (fun z : AlX => z.2.1) c)).1
  have c2 : ex.map (fun d => xObs K d) = ex.map XD.val := congrArg (fun z : AlX => z.2.2) c
  refine ⟨List.all_eq_true.mp c1 d h, ?_⟩
  obtain ⟨i, hi, e⟩ := List.mem_iff_getElem.mp h
  have e2 : (ex.map fun d => xObs K d)[i]? = (ex.map XD.val)[i]? := by rw [c2]
  rw [List.getElem?_map, List.getElem?_map, List.getElem?_eq_getElem hi, e] at e2
  exact Option.some.inj e2
def excOf (ex : List XD) : List (Str × Str) := ex.map fun d => (d.x, d.fld)
theorem excOf_get {x fld : Str} : ∀ {ex : List XD}, (excOf ex).lookup x = some fld → ∃ d ∈ ex, d.x = x ∧ d.fld = fld
  | [], h => by cases h
  | d :: r, h => by
    have h : List.lookup x ((d.x, d.fld) :: excOf r) = some fld := h
    rw [List.lookup_cons] at h
    split at h
    · rename_i q
      cases h
      exact ⟨d, List.mem_cons_self, (by simpa using q : x = d.x).symm, rfl⟩
    · obtain ⟨d', h1, h2⟩ := excOf_get h
      exact ⟨d', List.mem_cons_of_mem _ h1, h2⟩
theorem lk_mem {α β : Type} [BEq α] [LawfulBEq α] {k : α} {v : β} : ∀ {l : List (α × β)}, l.lookup k = some v → (k, v) ∈ l
  | [], h => by cases h
  | (a, b) :: r, h => by
    rw [List.lookup_cons] at h
    split at h
    · rename_i q
      cases h
      have : k = a := by simpa using q
      rw [this]
      exact List.mem_cons_self
    · exact List.mem_cons_of_mem _ (lk_mem h)
/-- the facts that the pairs of classes want -/
def exmFa (p : (Str × Str) × Bool) : List Fa := [.glo p.1.2, .exm p.1.1 p.1.2 p.2]
theorem SaysX.i {fa : List Fa} {fn : List DefD} {ex : List XD} {isx : Isx} {file : Str} {K : PySem.W.Frag} (c : SaysX fa fn ex isx file K) {q : (Str × Str) × Bool} (h : q ∈ isx) : isxB K q = true :=
  List.all_eq_true.mp (ba (show ((ex.all fun d => xB file K d) && isx.all (isxB K)) = true from congrArg (fun z : AlX => z.2.1) c)).2 q h
/-- the facts that isinstance's pairs want, those of fields -/
def isxFa (p : (Str × Str) × Bool) : Fa := if p.1.2 = "ValueError" then .free "ValueError" else .glo p.1.2
def fldFa (p : Str × Str) : List Fa := [.cls p.1, .noat p.1 p.2]
theorem exF_of {P : Program} {fa : List Fa} {fn : List DefD} {ex : List XD} {K : PySem.W.Frag} {h : Heap} {mg : Str → Option Value} {c : List (Str × Dn.D)} {exm isx : List ((Str × Str) × Bool)} {fld : List (Str × Str)} {chg : List Str} {hn : Dn.Hint} (X : K.In h) (G : h.Ns mainGlobals mg) (s : SaysX fa fn ex isx P.main.file K) (hx : ∀ d ∈ ex, XS P d)
    (hf : ∀ f ∈ exm.flatMap exmFa, f ∈ fa) (hi : ∀ f ∈ isx.map isxFa, f ∈ fa) (hl : ∀ f ∈ fld.flatMap fldFa, f ∈ fa) : Dn.ExF P K mg ⟨c, excOf ex, exm, isx, fld, chg, hn⟩ := by
  refine ⟨fun x fld e => ?_, fun x y b e => ?_, fun x y b e => ?_, fun x f m => ?_⟩
  · obtain ⟨d, hd, e1, e2⟩ := excOf_get e
    subst e1; subst e2
    obtain ⟨q1, q2⟩ := s.x hd
    obtain ⟨z1, z2, z3⟩ := sx_of q2 q1 (hx d hd)
    exact ⟨PySem.W.mg_of X G z3, ⟨_, z1⟩, z2⟩
  · have hm : ((x, y), b) ∈ exm := by
      exact lk_mem e
    have f1 := s.d.facts (hf _ (List.mem_flatMap.mpr ⟨_, hm, List.mem_cons_self⟩))
    have f2 := s.d.facts (hf _ (List.mem_flatMap.mpr ⟨_, hm, List.mem_cons_of_mem _ List.mem_cons_self⟩))
    exact ⟨He.glo_ok X G f1, He.exm_ok f2⟩
  · have hm : ((x, y), b) ∈ isx := lk_mem e
    have f1 := s.d.facts (hi _ (List.mem_map.mpr ⟨_, hm, rfl⟩))
    have f2 := s.i hm
    unfold isxB at f2
    obtain ⟨g1, g2⟩ := ba f2
    obtain ⟨g2, g3⟩ := ba g2
    refine ⟨?_, xfB_ok g2, @Dn.isB_ok ⟨fun _ => False⟩ _ _ g1, of_decide_eq_true g3⟩
    unfold isxFa at f1
    dsimp only at f1
    split
    · rename_i z
      rw [if_pos z] at f1
      subst z
      exact He.free_ok X G f1
    · rename_i z
      rw [if_neg z] at f1
      exact He.glo_ok X G f1
  · have f1 := s.d.facts (hl _ (List.mem_flatMap.mpr ⟨_, m, List.mem_cons_self⟩))
    have f2 := s.d.facts (hl _ (List.mem_flatMap.mpr ⟨_, m, List.mem_cons_of_mem _ List.mem_cons_self⟩))
    exact ⟨He.cls_ok f1, He.noat_ok f2⟩
end Dx

set_option Elab.async false
set_option linter.all false
set_option maxRecDepth 100000
set_option maxHeartbeats 4000000
/-! Dn14: a law over the table of its defs. -/
namespace Dn
open PySem L2 PyProof.Rows

def DI.dd (d : DI) : He.DefD := ⟨d.key, d.nm, d.qual, defArgs d.st, defBody d.st, defScope d.st, [], []⟩
def freesD : List Str := (["abs", "int", "len", "max", "min", "tuple", "list", "bool", "str", "sorted", "isinstance"] : List Str) ++ lateB
def cstFa (p : Str × D) : List He.Fa := match p.2 with
  | .int i => [.int p.1 i]
  | .str z => [.str p.1 z]
  | _ => []
def cstOk (p : Str × D) : Bool := match p.2 with
  | .int _ => true
  | .str _ => true
  | _ => false
def dFa (d : DI) : List He.Fa := match d.cl with
  | none => [.glo d.nm]
  | some c => [.glo c, .cls c, if d.nm = "__init__" then .mkr c else .meth c d.nm]
def faOf (T : List DI) (m : Md) : List He.Fa := T.flatMap dFa ++ (freesD.map .free ++ (m.cst.flatMap cstFa ++ (m.exm.flatMap Dx.exmFa ++ (m.isx.map Dx.isxFa ++ m.fld.flatMap Dx.fldFa))))
structure TabS (kw : List (Str × List Str)) (d : DI) : Prop where
  sc : FnScope d.N d.ps (defScope d.st)
  nf : d.fuel = 0 ∨ d.key.2 ≠ some ("__init__" : Str)
  bd : ∀ (kV doc pm : Value) (an : Option Addr) (cdv ct : Value) (us : List Value), us.length = d.ps.length → bindArgs (PySem.W.fnOf d.nm d.qual (defArgs d.st) (defBody d.st) (defScope d.st) .none kV doc pm an cdv ct) ⟨us, []⟩ = pure (d.ps.zip us)
  kb : ∀ ks, (d.nm, ks) ∈ kw → d.cl = none → ∀ (kV doc pm : Value) (an : Option Addr) (cdv ct : Value) (ws us : List Value), ws.length = ks.length → permL ks d.ps ws = some us →
    bindArgs (PySem.W.fnOf d.nm d.qual (defArgs d.st) (defBody d.st) (defScope d.st) .none kV doc pm an cdv ct) ⟨[], ks.zip ws⟩ = pure (d.ps.zip us)
def kwOf (kw : List (Str × List Str)) (x : Str) : List (List Str) := (kw.filter fun p => decide (p.1 = x)).map (·.2)
theorem kw_in {kw : List (Str × List Str)} {x : Str} {ks : List Str} (h : (x, ks) ∈ kw) : ks ∈ kwOf kw x := List.mem_map.mpr ⟨(x, ks), List.mem_filter.mpr ⟨h, decide_eq_true rfl⟩, rfl⟩
theorem kb_no {kw : List (Str × List Str)} {x : Str} {ks : List Str} (e : kwOf kw x = []) (h : (x, ks) ∈ kw) : False := by
  have := kw_in h
  rw [e] at this
  exact nomatch this
theorem kb_one {kw : List (Str × List Str)} {x : Str} {ks k0 : List Str} (e : kwOf kw x = [k0]) (h : (x, ks) ∈ kw) : ks = k0 := by
  have := kw_in h
  rw [e] at this
  exact List.mem_singleton.mp this
def AllS (kw : List (Str × List Str)) : List DI → Prop
  | [] => True
  | d :: r => TabS kw d ∧ AllS kw r
theorem allS_mem {kw : List (Str × List Str)} : ∀ {T : List DI} {d : DI}, AllS kw T → d ∈ T → TabS kw d
  | [], d, _, h => nomatch h
  | d0 :: r, d, a, h => by
    rcases List.mem_cons.mp h with e | h
    · subst e; exact a.1
    · exact allS_mem a.2 h
section
variable {K : PySem.W.Frag} {h : Heap} {mg : Str → Option Value} {T : List DI} {kw : List (Str × List Str)} {cst : Md} {P : Program}
theorem facts_tab (X : K.In h) (G : h.Ns mainGlobals mg) (c : He.SaysD (faOf T cst) (T.map DI.dd) K) (S : AllS kw T) (hc : cst.cst.all cstOk = true) (E : ExF P K mg cst) : (∀ d ∈ T, TabH K mg kw d) ∧ ModM P K mg cst := by
  have fr : ∀ x ∈ freesD, mg x = none := fun x hx => He.free_ok X G (c.facts (f := .free x) (List.mem_append_right _ (List.mem_append_left _ (List.mem_map.mpr ⟨x, hx, rfl⟩))))
  refine ⟨fun d hd => ?_, ⟨fun b => ?_, fun cl => ?_, fr _ (by decide), fun x hx => fr x (List.mem_append_right _ hx), E, fun x d e => ?_⟩⟩
  · obtain ⟨fd, F⟩ := c.defs (d := d.dd) (List.mem_map.mpr ⟨d, hd, rfl⟩)
    have fa : ∀ f ∈ dFa d, f.ok K = true := fun f hf => c.facts (List.mem_append_left _ (List.mem_flatMap.mpr ⟨d, hd, hf⟩))
    have s := allS_mem S hd
    have at_ : AtOk K mg d.key (He.fAd K d.key) := by
      unfold dFa at fa
      unfold DI.key AtOk
      cases q : d.cl with
      | none =>
        rw [q] at fa
        exact He.glo_ok X G (fa _ List.mem_cons_self)
      | some cn =>
        rw [q] at fa
        refine ⟨He.glo_ok X G (fa _ List.mem_cons_self), He.cls_ok (fa _ (List.mem_cons_of_mem _ List.mem_cons_self)), ?_⟩
        have f3 := fa _ (List.mem_cons_of_mem _ (List.mem_cons_of_mem _ List.mem_cons_self))
        split
        · rename_i z
          rw [if_pos z] at f3
          show Mk K (He.ga K cn) (He.ma K (He.ga K cn) d.nm)
          rw [z]
          exact He.mkr_ok f3
        · rename_i z
          rw [if_neg z] at f3
          exact He.meth_ok f3
    exact ⟨⟨_, fd, at_, F⟩, s.sc, s.nf, s.bd, s.kb⟩
  · cases b <;> exact fr _ (by decide)
  · cases cl <;> exact fr _ (by decide)
  · have hm : (x, d) ∈ cst.cst := PySem.mem_of_lookup e
    have ho := List.all_eq_true.mp hc _ hm
    have fa : ∀ f ∈ cstFa (x, d), f.ok K = true := fun f hf => c.facts (f := f) (List.mem_append_right _ (List.mem_append_right _ (List.mem_append_left _ (List.mem_flatMap.mpr ⟨(x, d), hm, hf⟩))))
    cases d with
    | int i =>
      obtain ⟨t, e1⟩ := He.int_ok X G (x := x) (i := i) (fa _ (by simp [cstFa]))
      exact ⟨_, .int i, e1, ⟨t, rfl⟩, rfl⟩
    | str z =>
      obtain ⟨t, e1⟩ := He.str_ok X G (x := x) (z := z) (fa _ (by simp [cstFa]))
      exact ⟨_, .str z, e1, ⟨t, rfl⟩, rfl⟩
    | _ => cases ho
theorem layL_map [ZS] {K : PySem.W.Frag} {H : Hp} : ∀ (ns : List Int), LayL K H (ns.map D.int) (ns.map V.int) []
  | [] => ⟨rfl, rfl⟩
  | n :: ns => ⟨.int n, ns.map V.int, [], [], rfl, rfl, ⟨rfl, rfl⟩, layL_map ns⟩
theorem sp_law [Z : ZS] (hz : ∀ a, ¬ Z.z a) {K : PySem.W.Frag} {H : Hp} {a : Addr} {ns : List Int} {G : FV} {as : List D} (hO : Only H) (hS : SqL K H a (ns.map V.int)) (e : G [.kl (ns.map .int)] = .ok (.bl true) as) :
    spD K 1 G [.ref a] H (fun v _ => v = .bl true) fun _ _ _ => False := by
  refine ⟨[.kl (ns.map .int)], fun _ => [], rfl, ⟨rfl, fun i d q => ?_, fun _ _ => rfl, fun _ => List.nodup_nil, fun i j b z => (nomatch z), fun b hb => (hb.elim fun _ z => (nomatch z)), fun b z => absurd z (hz b)⟩, ?_⟩
  · cases i with
    | succ i => simp at q
    | zero =>
      simp at q; subst q
      refine ⟨.ref a, rfl, rfl, a, ns.map V.int, rfl, ?_, layL_map ns⟩
      rcases hS with (h | ⟨o, h⟩) | h
      · rcases hO a with z | ⟨o, xs, z⟩
        · rw [h] at z; cases z
        · rw [h] at z; cases z
      · exact .inl (.inl ⟨o, h⟩)
      · exact .inr h
  · rw [e]
    rintro v H' ⟨Af, B, _, l, _⟩
    exact l.1
theorem walkD {l : PySem.W.OpenLaw} {n : Nat} {q : Program} {loose : List Str} {XP : (Str → Option Value) → Heap → Prop} {d : DefRec} {dl : DI} {r : List DI} {x : Str} {m : Nat}
    (hk : dl.cl = none) (hn : l.most = some n) (hn2 : n ≤ sizeLine) (hdf : d.params.defaults = []) (hr : Room (lev (dl :: r)) callerA) (hdn : d.name = dl.nm) (hps : dl.ps = [x]) (S : AllS kw (dl :: r)) (hc : cst.cst.all cstOk = true)
    {ex : List Dx.XD} (hex : cst.exc = Dx.excOf ex) (hX : ∀ d ∈ ex, Dx.XS l.prog d)
    (law : ∀ ns : List Int, ns.length ≤ n → (∀ z ∈ ns, Builtin.Int.intBits z ≤ 1048576) → ∃ as, dl.F kw cst (lev r) (tabR kw cst r) false [.kl (ns.map .int)] = .ok (.bl true) as) :
    PySem.W.WalkO q loose XP (Dx.hookX m (faOf (dl :: r) cst) ((dl :: r).map DI.dd) ex cst.isx l.prog.main.file).says l.row.toRowW d [] (fun f vs => PySem.call f vs) := by
  refine Att.attach_callB hn hdf fun w s₀ s₁ mg mb fa o pm cd doc a vs ns G Y ho hd hcd hmg hobj hints hlen hbits hg => ?_
  obtain ⟨K, KX, c⟩ := Y
  have eX : ExF l.prog K mg cst := by
    have z := Dx.exF_of (P := l.prog) (c := cst.cst) (exm := cst.exm) (fld := cst.fld) (chg := cst.chg) (hn := cst.hn) KX G.T.g c hX (fun f hf => List.mem_append_right _ (List.mem_append_right _ (List.mem_append_right _ (List.mem_append_left _ hf))))
      (fun f hf => List.mem_append_right _ (List.mem_append_right _ (List.mem_append_right _ (List.mem_append_right _ (List.mem_append_left _ hf))))) fun f hf => List.mem_append_right _ (List.mem_append_right _ (List.mem_append_right _ (List.mem_append_right _ (List.mem_append_right _ hf))))
    rw [← hex] at z
    exact z
  obtain ⟨TH, M⟩ := facts_tab KX G.T.g c.d S hc eX
  have ky : dl.key = (dl.nm, none) := by unfold DI.key; rw [hk]
  have lk : (tabR kw cst (dl :: r)).lookup dl.key = some ⟨dl.ps, dl.F kw cst (lev r) (tabR kw cst r) false, dl.F kw cst (lev r) (tabR kw cst r) true⟩ := by
    show List.lookup dl.key ((dl.key, _) :: _) = _
    rw [List.lookup_cons_self]
  have all := fun (base : Heap) => tab_ok (P := l.prog) (w := w) (K := K) (base := base) M TH dl.key _ lk
  obtain ⟨f, fd, F0⟩ := all s₁.heap
  have e : mg dl.nm = some (.ref fa) := hdn ▸ hmg
  obtain ⟨f', fd', hm', F'⟩ := (TH dl List.mem_cons_self).fn
  have hm' : mg dl.nm = some (.ref f') := by rw [ky] at hm'; exact hm'
  have hb : ∀ (s : Shared) (u : Value), BindsTo s fd' ⟨[u], []⟩ [(x, u)] := fun s u => by
    have := F'.bindsA (TH dl List.mem_cons_self).bd s [u] (by rw [hps]; rfl)
    rw [hps] at this
    exact this
  have ef : f' = fa := by
    rw [hm'] at e
    injection e with e
    injection e
  subst ef
  have hF : ∀ base : Heap, K.In base → base.Ns mainGlobals mg → FnOk l.prog w K mg base (L2N.CX l.prog w) (lev (dl :: r)) f' fd' [x] (@spD ⟨fun _ => False⟩ K 1 (dl.F kw cst (lev r) (tabR kw cst r) false)) := fun base _ _ => by
    obtain ⟨g, gd, Fb⟩ := all base
    have e1 : g = f' := by
      have := Fb.hm
      rw [ky] at this
      have this : mg dl.nm = some (.ref g) := this
      rw [hm'] at this
      injection this with this
      injection this with this
      exact this.symm
    subst e1
    have e2 : gd = fd' := by
      obtain ⟨oc, od, dV, kV, doc, pm, an, cdv, ct, osl, z1, z2, _⟩ := F'.ex
      obtain ⟨oc', od', osl', y⟩ := Fb.lk
      rw [z2] at y
      cases y
      rfl
    subst e2
    have := Fb.ok ⟨fun _ => False⟩
    rw [hps] at this
    exact this
  exact law_call KX G.T.g G.T.b G.T.builtins G.T.nolimit hg hobj hints (Nat.le_trans hlen hn2) hr hF hb (fun H hO hS => by
    obtain ⟨as, e⟩ := law ns hlen hbits
    exact @sp_law ⟨fun _ => False⟩ (fun _ z => z) _ _ _ _ _ _ hO hS e) fun H e s' z => by
      obtain ⟨_, _, _, _, _, _, _, _, _, _, _, _, z⟩ := z
      exact z
end
end Dn

set_option Elab.async false
set_option linter.all false
set_option maxRecDepth 100000
set_option maxHeartbeats 0
namespace K06
open PySem L2 Dn
def top (i : Nat) : Stmt := PySem.Challenge.pw_wayskept_k06_whole_states_of_rows_go_on.main.body.getD i (.Pass ⟨0, 0, 0, 0⟩)
def x_BadNumber : Dx.XD := ⟨"BadNumber", "at", "self", "at", "no such number", "BadNumber.__init__", (Dx.clsBody (top 2)).getD 0 (.Pass ⟨0, 0, 0, 0⟩)⟩
theorem xs_BadNumber : Dx.XS PySem.Challenge.pw_wayskept_k06_whole_states_of_rows_go_on x_BadNumber := ⟨⟨_, _, _, _, _, _, _, _, _, _, _, rfl, rfl⟩, ⟨_, rfl, rfl⟩, by decide +kernel, by decide +kernel, by decide +kernel, rfl, rfl, rfl, by decide +kernel, rfl, rfl, rfl, rfl, fun _ _ _ _ _ _ _ _ _ => rfl, by kernel_rfl⟩
def x_BadRow : Dx.XD := ⟨"BadRow", "at", "self", "at", "no such state of a row", "BadRow.__init__", (Dx.clsBody (top 3)).getD 0 (.Pass ⟨0, 0, 0, 0⟩)⟩
theorem xs_BadRow : Dx.XS PySem.Challenge.pw_wayskept_k06_whole_states_of_rows_go_on x_BadRow := ⟨⟨_, _, _, _, _, _, _, _, _, _, _, rfl, rfl⟩, ⟨_, rfl, rfl⟩, by decide +kernel, by decide +kernel, by decide +kernel, rfl, rfl, rfl, by decide +kernel, rfl, rfl, rfl, rfl, fun _ _ _ _ _ _ _ _ _ => rfl, by kernel_rfl⟩
def x_Refused : Dx.XD := ⟨"Refused", "value", "self", "value", "no such value here", "Refused.__init__", (Dx.clsBody (top 4)).getD 0 (.Pass ⟨0, 0, 0, 0⟩)⟩
theorem xs_Refused : Dx.XS PySem.Challenge.pw_wayskept_k06_whole_states_of_rows_go_on x_Refused := ⟨⟨_, _, _, _, _, _, _, _, _, _, _, rfl, rfl⟩, ⟨_, rfl, rfl⟩, by decide +kernel, by decide +kernel, by decide +kernel, rfl, rfl, rfl, by decide +kernel, rfl, rfl, rfl, rfl, fun _ _ _ _ _ _ _ _ _ => rfl, by kernel_rfl⟩
def exs : List Dx.XD := [x_BadNumber, x_BadRow, x_Refused]
def cst : Md := ⟨[("MOST_NAME", .int 31)], Dx.excOf exs, [(("BadNumber", "BadNumber"), true), (("BadRow", "BadNumber"), false), (("Refused", "BadNumber"), false), (("BadNumber", "OwnError"), true), (("BadRow", "OwnError"), true), (("Refused", "OwnError"), true), (("BadNumber", "Refused"), false), (("BadRow", "Refused"), false), (("Refused", "Refused"), true)], [(("BadNumber", "Refused"), false), (("BadRow", "Refused"), false), (("Refused", "Refused"), true), (("BadNumber", "BadRow"), false), (("BadRow", "BadRow"), true), (("Refused", "BadRow"), false)], [("Row", "head"), ("Row", "tail"), ("Row", "steps")], ["_law_apart", "_law_deed", "_law_drawn", "_law_drawn_two", "_law_near", "_law_number", "_law_pick", "_law_spoilt", "_law_take", "_law_take_in", "acked", "told"], ⟨["second", "rows", "one"], [371], [(353, 1)]⟩⟩
def kw : List (Str × List Str) := []
def d__law_box : DI := ⟨"_law_box", none, top 23, ["script", "k", "cell", "great"], ["script", "k"], 0⟩
def t__law_box : List DI := d__law_box :: []
noncomputable def F__law_box : FV := d__law_box.F kw cst (lev []) (tabR kw cst []) false
noncomputable def H__law_box : FV := d__law_box.F kw cst (lev []) (tabR kw cst []) true
theorem f__law_box : F__law_box = dFn 2 4 (dSeq (dSet 2 (d2 (binD .Add) (d2 (binD .Mult) (dCst (.int 4603)) (dVar 1)) (dCst (.int 9151)))) (dSeq (dIf (dTB (d2 (cmpD' .Lt) (dVar 1) (dPrim (bltD .len) (foldA [(dVar 0)])))) (dSet 2 (dPrim (bltD .abs) (foldA [(dPrim (bltD .int) (foldA [(d2 ixD (dVar 0) (dVar 1))]))]))) (dIf (dTB (d2 (cmpD' .Gt) (dPrim (bltD .len) (foldA [(dVar 0)])) (dCst (.int 0)))) (dSet 2 (d2 (binD .Add) (dVar 2) (d2 (binD .Mult) (d2 (binD .Mod) (dPrim (bltD .int) (foldA [(dPrim (bltD .abs) (foldA [(dPrim (bltD .int) (foldA [(d2 ixD (dVar 0) (d2 (binD .Mod) (dPrim (bltD .int) (foldA [(dVar 1)])) (dPrim (bltD .len) (foldA [(dVar 0)]))))]))]))])) (dCst (.int 2147483563))) (dCst (.int 51088))))) dPass)) (dSeq (dSet 3 (dIfE (dTB (d2 (cmpD' .GtE) (dVar 2) (d2 (binD .Pow) (dCst (.int 10)) (dCst (.int 18))))) (dVar 2) (dCst (.int 0)))) (dRet (dLst (foldA [(dFrz (dVar 3)), (dFrz (d2 (binD .Add) (d2 (binD .Mod) (dPrim (bltD .int) (foldA [(d2 (binD .Add) (d2 (binD .Mult) (d2 (binD .Mod) (dPrim (bltD .int) (foldA [(dVar 2)])) (dCst (.int 2147483563))) (dCst (.int 40014))) (d2 (binD .Mult) (dCst (.int 9151)) (dVar 1)))])) (dCst (.int 2147483563))) (dCst (.int 1))))])))))) := by kernel_rfl
theorem s__law_box : TabS kw d__law_box := ⟨⟨rfl, rfl, rfl, by decide +kernel, rfl, by decide +kernel, by decide +kernel⟩, .inl rfl, fun _ _ _ _ _ _ us hl => match us, hl with | [_, _], _ => rfl, fun ks hk _ => (kb_no (by decide +kernel) hk).elim⟩
def d__law_take : DI := ⟨"_law_take", none, top 24, ["box", "many", "digit", "raw"], ["box", "many"], 0⟩
def t__law_take : List DI := d__law_take :: t__law_box
noncomputable def F__law_take : FV := d__law_take.F kw cst (lev t__law_box) (tabR kw cst t__law_box) false
noncomputable def H__law_take : FV := d__law_take.F kw cst (lev t__law_box) (tabR kw cst t__law_box) true
theorem f__law_take : F__law_take = dFn 2 4 (dSeq (dIf (dTB (d2 (cmpD' .Gt) (d2 ixD (dVar 0) (dCst (.int 0))) (dCst (.int 0)))) (dSeq (dSet 2 (d2 (binD .Mod) (dPrim (bltD .int) (foldA [(d2 ixD (dVar 0) (dCst (.int 0)))])) (dVar 1))) (dSeq (dSetIx 0 (dCst (.int 0)) (d2 (binD .FloorDiv) (d2 ixD (dVar 0) (dCst (.int 0))) (dVar 1))) (dRet (dVar 2)))) dPass) (dSeq (dSet 3 (d2 (binD .Mod) (dPrim (bltD .int) (foldA [(d2 (binD .Add) (d2 (binD .Mult) (d2 ixD (dVar 0) (dCst (.int 1))) (dCst (.int 39373))) (dCst (.int 331)))])) (dCst (.int 2147483647)))) (dSeq (dSetIx 0 (dCst (.int 1)) (d2 (binD .Add) (d2 (binD .Mod) (dPrim (bltD .int) (foldA [(d2 (binD .Add) (d2 (binD .Mult) (dVar 3) (dCst (.int 40692))) (dCst (.int 37)))])) (dCst (.int 2147483399))) (dCst (.int 1)))) (dRet (d2 (binD .Mod) (dPrim (bltD .int) (foldA [(d2 (binD .FloorDiv) (d2 (binD .Add) (d2 (binD .Mult) (dVar 3) (dCst (.int 2147483629))) (d2 ixD (dVar 0) (dCst (.int 1)))) (dCst (.int 8209)))])) (dVar 1)))))) := by kernel_rfl
theorem s__law_take : TabS kw d__law_take := ⟨⟨rfl, rfl, rfl, by decide +kernel, rfl, by decide +kernel, by decide +kernel⟩, .inl rfl, fun _ _ _ _ _ _ us hl => match us, hl with | [_, _], _ => rfl, fun ks hk _ => (kb_no (by decide +kernel) hk).elim⟩
def d_Row___init__ : DI := ⟨"__init__", some "Row", (Dx.clsBody (top 16)).getD 0 (.Pass ⟨0, 0, 0, 0⟩), ["self"], ["self"], 0⟩
def t_Row___init__ : List DI := d_Row___init__ :: t__law_take
noncomputable def F_Row___init__ : FV := d_Row___init__.F kw cst (lev t__law_take) (tabR kw cst t__law_take) false
noncomputable def H_Row___init__ : FV := d_Row___init__.F kw cst (lev t__law_take) (tabR kw cst t__law_take) true
theorem f_Row___init__ : F_Row___init__ = dFn 1 1 (dSeq (dSetF cst.fld 0 "head" (dCst (.int 0))) (dSeq (dSetF cst.fld 0 "tail" (dCst (.int 0))) (dSetF cst.fld 0 "steps" (dLst (foldA []))))) := by kernel_rfl
theorem s_Row___init__ : TabS kw d_Row___init__ := ⟨⟨rfl, rfl, rfl, by decide +kernel, rfl, by decide +kernel, by decide +kernel⟩, .inl rfl, fun _ _ _ _ _ _ us hl => match us, hl with | [_], _ => rfl, fun ks hk _ => (kb_no (by decide +kernel) hk).elim⟩
def d__law_pick : DI := ⟨"_law_pick", none, top 25, ["box", "some"], ["box", "some"], 0⟩
def t__law_pick : List DI := d__law_pick :: t_Row___init__
noncomputable def F__law_pick : FV := d__law_pick.F kw cst (lev t_Row___init__) (tabR kw cst t_Row___init__) false
noncomputable def H__law_pick : FV := d__law_pick.F kw cst (lev t_Row___init__) (tabR kw cst t_Row___init__) true
theorem f__law_pick : F__law_pick = dFn 2 2 (dRet (d2 ixD (dVar 1) (dCall 2 F__law_take (foldA [(dVar 0), (dPrim (bltD .len) (foldA [(dVar 1)]))])))) := by kernel_rfl
theorem s__law_pick : TabS kw d__law_pick := ⟨⟨rfl, rfl, rfl, by decide +kernel, rfl, by decide +kernel, by decide +kernel⟩, .inl rfl, fun _ _ _ _ _ _ us hl => match us, hl with | [_, _], _ => rfl, fun ks hk _ => (kb_no (by decide +kernel) hk).elim⟩
def d__law_number : DI := ⟨"_law_number", none, top 27, ["box", "few", "kind", "entries", "turn"], ["box", "few"], 0⟩
def t__law_number : List DI := d__law_number :: t__law_pick
noncomputable def F__law_number : FV := d__law_number.F kw cst (lev t__law_pick) (tabR kw cst t__law_pick) false
noncomputable def H__law_number : FV := d__law_number.F kw cst (lev t__law_pick) (tabR kw cst t__law_pick) true
theorem f__law_number : F__law_number = dFn 2 5 (dSeq (dSet 2 (dCall 2 F__law_take (foldA [(dVar 0), (dCst (.int 5))]))) (dSeq (dIf (dTB (d2 (cmpD' .Eq) (dVar 2) (dCst (.int 0)))) (dRet (dCst .non)) dPass) (dSeq (dIf (dTB (d2 (cmpD' .Lt) (dVar 2) (dCst (.int 4)))) (dRet (dTup (foldA [(dFrz (dCall 2 F__law_take (foldA [(dVar 0), (dVar 1)]))), (dFrz (dCall 2 F__law_take (foldA [(dVar 0), (dCst (.int 2))])))]))) dPass) (dSeq (dSet 3 (dLst (foldA [(dFrz (dCall 2 F__law_pick (foldA [(dVar 0), (dFrz (dLst (foldA [(dFrz (dCst (.int 0))), (dFrz (d2 (binD .Pow) (dCst (.int 10)) (dCst (.int 12)))), (dFrz (dCall 2 F__law_take (foldA [(dVar 0), (dFrz (d2 (binD .Pow) (dCst (.int 10)) (dCst (.int 12))))])))])))])))]))) (dSeq (dFor (dRng (foldA [(dCall 2 F__law_take (foldA [(dVar 0), (dCst (.int 9))]))])) (.nm 4) (dDrop (dAppend 3 (dFrz (dCall 2 F__law_pick (foldA [(dVar 0), (dFrz (dLst (foldA [(dFrz (dCst (.int 0))), (dFrz (d1 negD (dCst (.int 1)))), (dFrz (d1 negD (d2 (binD .Pow) (dCst (.int 10)) (dCst (.int 12))))), (dFrz (d2 (binD .Pow) (dCst (.int 10)) (dCst (.int 12)))), (dFrz (d2 (binD .Sub) (dCall 2 F__law_take (foldA [(dVar 0), (dFrz (d2 (binD .Pow) (dCst (.int 10)) (dCst (.int 12))))])) (dCall 2 F__law_take (foldA [(dVar 0), (dFrz (d2 (binD .Pow) (dCst (.int 10)) (dCst (.int 12))))]))))])))])))))) (dRet (dPrim (bltD .tuple) (foldA [(d2 (binD .Add) (dVar 3) (dLst (foldA [(dFrz (dCall 2 F__law_take (foldA [(dVar 0), (dCst (.int 32))])))])))])))))))) := by kernel_rfl
theorem s__law_number : TabS kw d__law_number := ⟨⟨rfl, rfl, rfl, by decide +kernel, rfl, by decide +kernel, by decide +kernel⟩, .inl rfl, fun _ _ _ _ _ _ us hl => match us, hl with | [_, _], _ => rfl, fun ks hk _ => (kb_no (by decide +kernel) hk).elim⟩
def d_made_row : DI := ⟨"made_row", none, top 17, ["head", "tail", "steps", "row"], ["head", "tail", "steps"], 0⟩
def t_made_row : List DI := d_made_row :: t__law_number
noncomputable def F_made_row : FV := d_made_row.F kw cst (lev t__law_number) (tabR kw cst t__law_number) false
noncomputable def H_made_row : FV := d_made_row.F kw cst (lev t__law_number) (tabR kw cst t__law_number) true
theorem f_made_row : F_made_row = dFn 3 4 (dSeq (dSet 3 (dMake 1 F_Row___init__ "Row" (foldA []))) (dSeq (dSetF cst.fld 3 "head" (dVar 0)) (dSeq (dSetF cst.fld 3 "tail" (dVar 1)) (dSeq (dSetF cst.fld 3 "steps" (dPrim (bltD .list) (foldA [(dVar 2)]))) (dRet (dVar 3)))))) := by kernel_rfl
theorem s_made_row : TabS kw d_made_row := ⟨⟨rfl, rfl, rfl, by decide +kernel, rfl, by decide +kernel, by decide +kernel⟩, .inl rfl, fun _ _ _ _ _ _ us hl => match us, hl with | [_, _, _], _ => rfl, fun ks hk _ => (kb_no (by decide +kernel) hk).elim⟩
def d_begun_row : DI := ⟨"begun_row", none, top 18, ["serial", "number"], ["serial", "number"], 0⟩
def t_begun_row : List DI := d_begun_row :: t_made_row
noncomputable def F_begun_row : FV := d_begun_row.F kw cst (lev t_made_row) (tabR kw cst t_made_row) false
noncomputable def H_begun_row : FV := d_begun_row.F kw cst (lev t_made_row) (tabR kw cst t_made_row) true
theorem f_begun_row : F_begun_row = dFn 2 2 (dSeq (dIf (dAndT (dTB (d2 (cmpD' .Eq) (dVar 0) (dCst (.int 0)))) (dTB (d2 (cmpD' .Is) (dVar 1) (dCst .non)))) (dRet (dMake 1 F_Row___init__ "Row" (foldA []))) dPass) (dRet (dCall 3 F_made_row (foldA [(dVar 0), (dVar 0), (dFrz (dLst (foldA [(dFrz (dTup (foldA [(dFrz (dVar 0)), (dFrz (dVar 1))])))])))])))) := by kernel_rfl
theorem s_begun_row : TabS kw d_begun_row := ⟨⟨rfl, rfl, rfl, by decide +kernel, rfl, by decide +kernel, by decide +kernel⟩, .inl rfl, fun _ _ _ _ _ _ us hl => match us, hl with | [_, _], _ => rfl, fun ks hk _ => (kb_no (by decide +kernel) hk).elim⟩
def d__law_deed : DI := ⟨"_law_deed", none, top 39, ["box", "first", "last", "few"], ["box", "first", "last", "few"], 0⟩
def t__law_deed : List DI := d__law_deed :: t_begun_row
noncomputable def F__law_deed : FV := d__law_deed.F kw cst (lev t_begun_row) (tabR kw cst t_begun_row) false
noncomputable def H__law_deed : FV := d__law_deed.F kw cst (lev t_begun_row) (tabR kw cst t_begun_row) true
theorem f__law_deed : F__law_deed = dFn 4 4 (dSeq (dIf (dTB (d2 (cmpD' .Eq) (dCall 2 F__law_take (foldA [(dVar 0), (dCst (.int 3))])) (dCst (.int 0)))) (dRet (dTup (foldA [(dFrz (dCst (.str "acked"))), (dFrz (d2 (binD .Add) (dVar 1) (dCall 2 F__law_take (foldA [(dVar 0), (dFrz (d2 (binD .Add) (d2 (binD .Sub) (dVar 2) (dVar 1)) (dCst (.int 2))))])))), (dFrz (dCst .non))]))) dPass) (dRet (dTup (foldA [(dFrz (dCst (.str "told"))), (dFrz (dPrim (bltD .min) (foldA [(d2 (binD .Sub) (d2 (binD .Pow) (dCst (.int 10)) (dCst (.int 12))) (dCst (.int 1))), (d2 (binD .Add) (dVar 2) (dCall 2 F__law_pick (foldA [(dVar 0), (dFrz (dLst (foldA [(dFrz (dCst (.int 0))), (dFrz (dCst (.int 1))), (dFrz (dCst (.int 1))), (dFrz (dCst (.int 1))), (dFrz (dCst (.int 1))), (dFrz (dCst (.int 2))), (dFrz (dCst (.int 9))), (dFrz (dCall 2 F__law_take (foldA [(dVar 0), (dFrz (d2 (binD .Pow) (dCst (.int 10)) (dCst (.int 10))))])))])))])))]))), (dFrz (dCall 2 F__law_number (foldA [(dVar 0), (dVar 3)])))])))) := by kernel_rfl
theorem s__law_deed : TabS kw d__law_deed := ⟨⟨rfl, rfl, rfl, by decide +kernel, rfl, by decide +kernel, by decide +kernel⟩, .inl rfl, fun _ _ _ _ _ _ us hl => match us, hl with | [_, _, _, _], _ => rfl, fun ks hk _ => (kb_no (by decide +kernel) hk).elim⟩
def d_is_below : DI := ⟨"is_below", none, top 13, ["one", "two"], ["one", "two"], 0⟩
def t_is_below : List DI := d_is_below :: t__law_deed
noncomputable def F_is_below : FV := d_is_below.F kw cst (lev t__law_deed) (tabR kw cst t__law_deed) false
noncomputable def H_is_below : FV := d_is_below.F kw cst (lev t__law_deed) (tabR kw cst t__law_deed) true
theorem f_is_below : F_is_below = dFn 2 2 (dSeq (dIf (dROT (dTB (d2 (cmpD' .Is) (dVar 0) (dCst .non)))) (dRet (dCst (.bl false))) dPass) (dRet (dRO (dOrE (d2 (cmpD' .Is) (dVar 1) (dCst .non)) (d2 (cmpD' .Lt) (dVar 0) (dVar 1)))))) := by kernel_rfl
theorem s_is_below : TabS kw d_is_below := ⟨⟨rfl, rfl, rfl, by decide +kernel, rfl, by decide +kernel, by decide +kernel⟩, .inl rfl, fun _ _ _ _ _ _ us hl => match us, hl with | [_, _], _ => rfl, fun ks hk _ => (kb_no (by decide +kernel) hk).elim⟩
def d_Row_told : DI := ⟨"told", some "Row", (Dx.clsBody (top 16)).getD 1 (.Pass ⟨0, 0, 0, 0⟩), ["self", "serial", "number"], ["self", "serial", "number"], 0⟩
def t_Row_told : List DI := d_Row_told :: t_is_below
noncomputable def F_Row_told : FV := d_Row_told.F kw cst (lev t_is_below) (tabR kw cst t_is_below) false
noncomputable def H_Row_told : FV := d_Row_told.F kw cst (lev t_is_below) (tabR kw cst t_is_below) true
theorem f_Row_told : F_Row_told = dFn 3 3 (dSeq (dIf (dROT (dTB (d2 (cmpD' .LtE) (dVar 1) (dFld cst.fld "tail" (dVar 0))))) (dRaise "Refused" "value" (dFrz (dVar 1))) dPass) (dSeq (dWhile (dROT (dAndT (dTB (d2 (cmpD' .Gt) (dPrim (bltD .len) (foldA [(dFld cst.fld "steps" (dVar 0))])) (dCst (.int 0)))) (dNotT (dTr (dCall 2 F_is_below (foldA [(dFrz (d2 ixD (d2 ixD (dFld cst.fld "steps" (dVar 0)) (d1 negD (dCst (.int 1)))) (dCst (.int 1)))), (dVar 2)])))))) (dDrop (dPopF cst.fld 0 "steps"))) (dSeq (dDrop (dAppF cst.fld 0 "steps" (dFrz (dTup (foldA [(dFrz (dVar 1)), (dFrz (dVar 2))]))))) (dSetF cst.fld 0 "tail" (dVar 1))))) := by kernel_rfl
theorem s_Row_told : TabS kw d_Row_told := ⟨⟨rfl, rfl, rfl, by decide +kernel, rfl, by decide +kernel, by decide +kernel⟩, .inl rfl, fun _ _ _ _ _ _ us hl => match us, hl with | [_, _, _], _ => rfl, fun ks hk _ => (kb_no (by decide +kernel) hk).elim⟩
def d_Row_steps_from : DI := ⟨"steps_from", some "Row", (Dx.clsBody (top 16)).getD 3 (.Pass ⟨0, 0, 0, 0⟩), ["self", "k", "step"], ["self", "k"], 0⟩
def t_Row_steps_from : List DI := d_Row_steps_from :: t_Row_told
noncomputable def F_Row_steps_from : FV := d_Row_steps_from.F kw cst (lev t_Row_told) (tabR kw cst t_Row_told) false
noncomputable def H_Row_steps_from : FV := d_Row_steps_from.F kw cst (lev t_Row_told) (tabR kw cst t_Row_told) true
theorem f_Row_steps_from : F_Row_steps_from = dFn 2 3 (dRet (dRO (dLc (dSeqIt (dFrz (dFld cst.fld "steps" (dVar 0)))) (.nm 2) (dTB (d2 (cmpD' .GtE) (d2 ixD (dVar 2) (dCst (.int 0))) (dVar 1))) (dFrz (dVar 2)) [2]))) := by kernel_rfl
theorem s_Row_steps_from : TabS kw d_Row_steps_from := ⟨⟨rfl, rfl, rfl, by decide +kernel, rfl, by decide +kernel, by decide +kernel⟩, .inl rfl, fun _ _ _ _ _ _ us hl => match us, hl with | [_, _], _ => rfl, fun ks hk _ => (kb_no (by decide +kernel) hk).elim⟩
def d_Row_acked : DI := ⟨"acked", some "Row", (Dx.clsBody (top 16)).getD 2 (.Pass ⟨0, 0, 0, 0⟩), ["self", "k"], ["self", "k"], 0⟩
def t_Row_acked : List DI := d_Row_acked :: t_Row_steps_from
noncomputable def F_Row_acked : FV := d_Row_acked.F kw cst (lev t_Row_steps_from) (tabR kw cst t_Row_steps_from) false
noncomputable def H_Row_acked : FV := d_Row_acked.F kw cst (lev t_Row_steps_from) (tabR kw cst t_Row_steps_from) true
theorem f_Row_acked : F_Row_acked = dFn 2 2 (dSeq (dIf (dROT (dNotT (dTB (dChain .Lt .LtE (dFld cst.fld "head" (dVar 0)) (dVar 1) (dFld cst.fld "tail" (dVar 0)))))) (dRaise "Refused" "value" (dFrz (dVar 1))) dPass) (dSeq (dSetF cst.fld 0 "steps" (dRO (dMeth false [(("Row", some "steps_from"), ⟨["self", "k"], F_Row_steps_from, H_Row_steps_from⟩)] "steps_from" (dVar 0) [(dVar 1)]))) (dSetF cst.fld 0 "head" (dVar 1)))) := by kernel_rfl
theorem s_Row_acked : TabS kw d_Row_acked := ⟨⟨rfl, rfl, rfl, by decide +kernel, rfl, by decide +kernel, by decide +kernel⟩, .inl rfl, fun _ _ _ _ _ _ us hl => match us, hl with | [_, _], _ => rfl, fun ks hk _ => (kb_no (by decide +kernel) hk).elim⟩
def d__law_like : DI := ⟨"_law_like", none, top 26, ["one", "due", "here", "there"], ["one", "due"], 12⟩
def t__law_like : List DI := d__law_like :: t_Row_acked
noncomputable def F__law_like : FV := d__law_like.F kw cst (lev t_Row_acked) (tabR kw cst t_Row_acked) false
noncomputable def H__law_like : FV := d__law_like.F kw cst (lev t_Row_acked) (tabR kw cst t_Row_acked) true
noncomputable def G__law_like (m : Nat) : FV := d__law_like.loop kw cst (lev t_Row_acked) (tabR kw cst t_Row_acked) m false
noncomputable def GH__law_like (m : Nat) : FV := d__law_like.loop kw cst (lev t_Row_acked) (tabR kw cst t_Row_acked) m true
theorem g__law_like : F__law_like = G__law_like 12 := by rfl
theorem gh__law_like : H__law_like = GH__law_like 12 := by rfl
theorem f__law_like (m : Nat) : G__law_like (m + 1) = dFn 2 4 (dSeq (dIf (dTB (d2 (cmpD' .Is) (dVar 1) (dCst .non))) (dRet (dRO (d2 (cmpD' .Is) (dVar 0) (dCst .non)))) dPass) (dSeq (dIf (dOrT (dTB (d2 (cmpD' .Is) (dVar 1) (dCst (.bl true)))) (dTB (d2 (cmpD' .Is) (dVar 1) (dCst (.bl false))))) (dRet (dRO (dAndE (dIsi .bool (dVar 0)) (d2 (cmpD' .Eq) (dVar 0) (dVar 1))))) dPass) (dSeq (dIf (dTr (dIsi .int (dVar 1))) (dRet (dRO (dAndE (dIsi .int (dVar 0)) (dAndE (dNotE (dIsi .bool (dVar 0))) (d2 (cmpD' .Eq) (dVar 0) (dVar 1)))))) dPass) (dSeq (dIf (dTr (dIsi .str (dVar 1))) (dRet (dRO (dAndE (dIsi .str (dVar 0)) (d2 (cmpD' .Eq) (dVar 0) (dVar 1))))) dPass) (dSeq (dIf (dROT (dOrT (dTB (d2 (cmpD' .NotEq) (dIsi .tuple (dVar 0)) (dIsi .tuple (dVar 1)))) (dTB (d2 (cmpD' .NotEq) (dIsi .list (dVar 0)) (dIsi .list (dVar 1)))))) (dRet (dCst (.bl false))) dPass) (dSeq (dIf (dROT (dOrT (dNotT (dTr (dIsi2 .tuple .list (dVar 0)))) (dTB (d2 (cmpD' .NotEq) (dPrim (bltD .len) (foldA [(dVar 0)])) (dPrim (bltD .len) (foldA [(dVar 1)])))))) (dRet (dCst (.bl false))) dPass) (dRet (dRO (d2 (cmpD' .Eq) (dLc (dZip (foldA [(dFrz (dVar 0)), (dFrz (dVar 1))])) (.tp [2, 3]) (dNotT (dTr (dCall 2 (G__law_like m) (foldA [(dVar 2), (dVar 3)])))) (dFrz (dCst (.int 1))) [2, 3]) (dLst (foldA []))))))))))) := by kernel_rfl
theorem h__law_like (m : Nat) : GH__law_like (m + 1) = dFn 2 4 (dSeq (dIf (dTB (d2 (cmpD' .Is) (dVar 1) (dCst .non))) (dRet (dRO (d2 (cmpD' .Is) (dVar 0) (dCst .non)))) dPass) (dSeq (dIf (dOrT (dTB (d2 (cmpD' .Is) (dVar 1) (dCst (.bl true)))) (dTB (d2 (cmpD' .Is) (dVar 1) (dCst (.bl false))))) (dRet (dRO (dAndE (dIsi .bool (dVar 0)) (d2 (cmpD' .Eq) (dVar 0) (dVar 1))))) dPass) (dSeq (dIf (dTr (dIsi .int (dVar 1))) (dRet (dRO (dAndE (dIsi .int (dVar 0)) (dAndE (dNotE (dIsi .bool (dVar 0))) (d2 (cmpD' .Eq) (dVar 0) (dVar 1)))))) dPass) (dSeq (dIf (dTr (dIsi .str (dVar 1))) (dRet (dRO (dAndE (dIsi .str (dVar 0)) (d2 (cmpD' .Eq) (dVar 0) (dVar 1))))) dPass) (dSeq (dIf (dROT (dOrT (dTB (d2 (cmpD' .NotEq) (dIsi .tuple (dVar 0)) (dIsi .tuple (dVar 1)))) (dTB (d2 (cmpD' .NotEq) (dIsi .list (dVar 0)) (dIsi .list (dVar 1)))))) (dRet (dCst (.bl false))) dPass) (dSeq (dIf (dROT (dOrT (dNotT (dTr (dIsi2 .tuple .list (dVar 0)))) (dTB (d2 (cmpD' .NotEq) dErr dErr)))) (dRet (dCst (.bl false))) dPass) (dRet (dRO (d2 (cmpD' .Eq) dErr (dLst (foldA []))))))))))) := by kernel_rfl
theorem s__law_like : TabS kw d__law_like := ⟨⟨rfl, rfl, rfl, by decide +kernel, rfl, by decide +kernel, by decide +kernel⟩, .inr (by decide +kernel), fun _ _ _ _ _ _ us hl => match us, hl with | [_, _], _ => rfl, fun ks hk _ => (kb_no (by decide +kernel) hk).elim⟩
def d__law_take_in : DI := ⟨"_law_take_in", none, top 40, ["row", "deed", "word", "value", "number", "wrong"], ["row", "deed"], 0⟩
def t__law_take_in : List DI := d__law_take_in :: t__law_like
noncomputable def F__law_take_in : FV := d__law_take_in.F kw cst (lev t__law_like) (tabR kw cst t__law_like) false
noncomputable def H__law_take_in : FV := d__law_take_in.F kw cst (lev t__law_like) (tabR kw cst t__law_like) true
theorem f__law_take_in : F__law_take_in = dFn 2 6 (dSeq (dUnp (.tp [2, 3, 4]) (dVar 1)) (dSeq (dTryA (dIf (dTB (d2 (cmpD' .Eq) (dVar 2) (dCst (.str "told")))) (dDrop (dMeth false [(("Row", some "told"), ⟨["self", "serial", "number"], F_Row_told, H_Row_told⟩)] "told" (dVar 0) [(dVar 3), (dVar 4)])) (dDrop (dMeth false [(("Row", some "acked"), ⟨["self", "k"], F_Row_acked, H_Row_acked⟩)] "acked" (dVar 0) [(dVar 3)]))) cst.exm "Refused" 5 (fun a dx c => (dSeq (dIf (dNotT (dTr (dCall 2 H__law_like (foldA [(attF cst.exc a dx c "value" (dVar 5)), (dVar 3)])))) (dRet (dCst .non)) dPass) (dRet (dCst (.bl false)))))) (dRet (dCst (.bl true))))) := by kernel_rfl
theorem s__law_take_in : TabS kw d__law_take_in := ⟨⟨rfl, rfl, rfl, by decide +kernel, rfl, by decide +kernel, by decide +kernel⟩, .inl rfl, fun _ _ _ _ _ _ us hl => match us, hl with | [_, _], _ => rfl, fun ks hk _ => (kb_no (by decide +kernel) hk).elim⟩
def d__law_due : DI := ⟨"_law_due", none, top 41, ["deed", "first", "last"], ["deed", "first", "last"], 0⟩
def t__law_due : List DI := d__law_due :: t__law_take_in
noncomputable def F__law_due : FV := d__law_due.F kw cst (lev t__law_take_in) (tabR kw cst t__law_take_in) false
noncomputable def H__law_due : FV := d__law_due.F kw cst (lev t__law_take_in) (tabR kw cst t__law_take_in) true
theorem f__law_due : F__law_due = dFn 3 3 (dRet (dIfE (dTB (d2 (cmpD' .Eq) (d2 ixD (dVar 0) (dCst (.int 0))) (dCst (.str "told")))) (d2 (cmpD' .Gt) (d2 ixD (dVar 0) (dCst (.int 1))) (dVar 2)) (dChain .Lt .LtE (dVar 1) (d2 ixD (dVar 0) (dCst (.int 1))) (dVar 2)))) := by kernel_rfl
theorem s__law_due : TabS kw d__law_due := ⟨⟨rfl, rfl, rfl, by decide +kernel, rfl, by decide +kernel, by decide +kernel⟩, .inl rfl, fun _ _ _ _ _ _ us hl => match us, hl with | [_, _, _], _ => rfl, fun ks hk _ => (kb_no (by decide +kernel) hk).elim⟩
def d__law_drawn_two : DI := ⟨"_law_drawn_two", none, top 45, ["box", "few", "row", "reports", "first", "last", "number", "turn", "deed"], ["box", "few"], 0⟩
def t__law_drawn_two : List DI := d__law_drawn_two :: t__law_due
noncomputable def F__law_drawn_two : FV := d__law_drawn_two.F kw cst (lev t__law_due) (tabR kw cst t__law_due) false
noncomputable def H__law_drawn_two : FV := d__law_drawn_two.F kw cst (lev t__law_due) (tabR kw cst t__law_due) true
theorem f__law_drawn_two : F__law_drawn_two = dFn 2 9 (dSeq (dPar [2, 3, 4, 5] (foldA [(dMake 1 F_Row___init__ "Row" (foldA [])), (dLst (foldA [])), (dCst (.int 0)), (dCst (.int 0))])) (dSeq (dIf (dTB (d2 (cmpD' .Eq) (dCall 2 F__law_take (foldA [(dVar 0), (dCst (.int 3))])) (dCst (.int 0)))) (dSeq (dPar [4, 6] (foldA [(dCall 2 F__law_pick (foldA [(dVar 0), (dFrz (dLst (foldA [(dFrz (dCst (.int 0))), (dFrz (dCst (.int 0))), (dFrz (dCst (.int 1))), (dFrz (dCst (.int 3))), (dFrz (d2 (binD .Sub) (d2 (binD .Pow) (dCst (.int 10)) (dCst (.int 12))) (dCst (.int 50))))])))])), (dCall 2 F__law_number (foldA [(dVar 0), (dVar 1)]))])) (dSeq (dPar [2, 5] (foldA [(dCall 2 F_begun_row (foldA [(dVar 4), (dVar 6)])), (dVar 4)])) (dIf (dOrT (dTB (d2 (cmpD' .Gt) (dVar 4) (dCst (.int 0)))) (dTB (d2 (cmpD' .IsNot) (dVar 6) (dCst .non)))) (dSet 3 (dLst (foldA [(dFrz (dTup (foldA [(dFrz (dVar 4)), (dFrz (dVar 6))])))]))) dPass))) dPass) (dSeq (dFor (dRng (foldA [(dCall 2 F__law_pick (foldA [(dVar 0), (dFrz (dLst (foldA [(dFrz (dCst (.int 0))), (dFrz (dCst (.int 2))), (dFrz (dCst (.int 4))), (dFrz (dCst (.int 10))), (dFrz (dCst (.int 20)))])))]))])) (.nm 7) (dSeq (dSet 8 (dCall 4 F__law_deed (foldA [(dVar 0), (dVar 4), (dVar 5), (dVar 1)]))) (dSeq (dIf (dTB (d2 (cmpD' .NotEq) (dCall 2 F__law_take_in (foldA [(dVar 2), (dVar 8)])) (dCall 3 F__law_due (foldA [(dVar 8), (dVar 4), (dVar 5)])))) (dRet (dCst .non)) dPass) (dIf (dAndT (dTB (d2 (cmpD' .Eq) (d2 ixD (dVar 8) (dCst (.int 0))) (dCst (.str "told")))) (dTB (d2 (cmpD' .Gt) (d2 ixD (dVar 8) (dCst (.int 1))) (dVar 5)))) (dSeq (dSet 5 (d2 ixD (dVar 8) (dCst (.int 1)))) (dDrop (dAppend 3 (dFrz (dTup (foldA [(dFrz (dVar 5)), (dFrz (d2 ixD (dVar 8) (dCst (.int 2))))])))))) (dIf (dAndT (dTB (d2 (cmpD' .Eq) (d2 ixD (dVar 8) (dCst (.int 0))) (dCst (.str "acked")))) (dTB (dChain .Lt .LtE (dVar 4) (d2 ixD (dVar 8) (dCst (.int 1))) (dVar 5)))) (dSet 4 (d2 ixD (dVar 8) (dCst (.int 1)))) dPass))))) (dRet (dTup (foldA [(dFrz (dVar 2)), (dFrz (dVar 3)), (dFrz (dVar 4)), (dFrz (dVar 5))])))))) := by kernel_rfl
theorem s__law_drawn_two : TabS kw d__law_drawn_two := ⟨⟨rfl, rfl, rfl, by decide +kernel, rfl, by decide +kernel, by decide +kernel⟩, .inl rfl, fun _ _ _ _ _ _ us hl => match us, hl with | [_, _], _ => rfl, fun ks hk _ => (kb_no (by decide +kernel) hk).elim⟩
def d__law_above : DI := ⟨"_law_above", none, top 28, ["one", "other"], ["one", "other"], 0⟩
def t__law_above : List DI := d__law_above :: t__law_drawn_two
noncomputable def F__law_above : FV := d__law_above.F kw cst (lev t__law_drawn_two) (tabR kw cst t__law_drawn_two) false
noncomputable def H__law_above : FV := d__law_above.F kw cst (lev t__law_drawn_two) (tabR kw cst t__law_drawn_two) true
theorem f__law_above : F__law_above = dFn 2 2 (dSeq (dIf (dTB (d2 (cmpD' .Is) (dVar 1) (dCst .non))) (dRet (dCst (.bl false))) dPass) (dRet (dRO (dOrE (d2 (cmpD' .Is) (dVar 0) (dCst .non)) (d2 (cmpD' .Gt) (dVar 0) (dVar 1)))))) := by kernel_rfl
theorem s__law_above : TabS kw d__law_above := ⟨⟨rfl, rfl, rfl, by decide +kernel, rfl, by decide +kernel, by decide +kernel⟩, .inl rfl, fun _ _ _ _ _ _ us hl => match us, hl with | [_, _], _ => rfl, fun ks hk _ => (kb_no (by decide +kernel) hk).elim⟩
def d__law_state : DI := ⟨"_law_state", none, top 29, ["reports", "first", "last", "falls", "at", "serial", "number", "later"], ["reports", "first", "last"], 0⟩
def t__law_state : List DI := d__law_state :: t__law_above
noncomputable def F__law_state : FV := d__law_state.F kw cst (lev t__law_above) (tabR kw cst t__law_above) false
noncomputable def H__law_state : FV := d__law_state.F kw cst (lev t__law_above) (tabR kw cst t__law_above) true
theorem f__law_state : F__law_state = dFn 3 8 (dSeq (dSet 3 (dLst (foldA []))) (dSeq (dFor (dEnum (foldA [(dFrz (dVar 0))])) (.tn [(.nm 4), (.tp [5, 6])]) (dIf (dAndT (dTB (d2 (cmpD' .GtE) (dVar 5) (dVar 1))) (dTB (d2 (cmpD' .Eq) (dLc (dSeqIt (dFrz (dSl (dVar 0) (dPart (d2 (binD .Add) (dVar 4) (dCst (.int 1)))) dNoP))) (.nm 7) (dNotT (dTr (dCall 2 F__law_above (foldA [(dFrz (d2 ixD (dVar 7) (dCst (.int 1)))), (dVar 6)])))) (dFrz (dCst (.int 1))) [7]) (dLst (foldA []))))) (dDrop (dAppend 3 (dFrz (dTup (foldA [(dFrz (dVar 5)), (dFrz (dVar 6))]))))) dPass)) (dRet (dTup (foldA [(dFrz (dVar 1)), (dFrz (dVar 2)), (dFrz (dPrim (bltD .tuple) (foldA [(dVar 3)])))]))))) := by kernel_rfl
theorem s__law_state : TabS kw d__law_state := ⟨⟨rfl, rfl, rfl, by decide +kernel, rfl, by decide +kernel, by decide +kernel⟩, .inl rfl, fun _ _ _ _ _ _ us hl => match us, hl with | [_, _, _], _ => rfl, fun ks hk _ => (kb_no (by decide +kernel) hk).elim⟩
def d__law_near : DI := ⟨"_law_near", none, top 46, ["box", "state", "first", "last", "falls", "found", "at"], ["box", "state"], 0⟩
def t__law_near : List DI := d__law_near :: t__law_state
noncomputable def F__law_near : FV := d__law_near.F kw cst (lev t__law_state) (tabR kw cst t__law_state) false
noncomputable def H__law_near : FV := d__law_near.F kw cst (lev t__law_state) (tabR kw cst t__law_state) true
theorem f__law_near : F__law_near = dFn 2 7 (dSeq (dUnp (.tp [2, 3, 4]) (dVar 1)) (dSeq (dSet 5 (d2 (binD .Add) (dLst (foldA [(dFrz (dVar 1))])) (dLc (dRng (foldA [(d2 (binD .Sub) (dPrim (bltD .len) (foldA [(dVar 4)])) (dCst (.int 1)))])) (.nm 6) dYes (dFrz (dTup (foldA [(dFrz (dVar 2)), (dFrz (dVar 3)), (dFrz (d2 (binD .Add) (dSl (dVar 4) dNoP (dPart (dVar 6))) (dSl (dVar 4) (dPart (d2 (binD .Add) (dVar 6) (dCst (.int 1)))) dNoP)))]))) [6]))) (dSeq (dIf (dTB (d2 (cmpD' .Gt) (dVar 3) (dCst (.int 0)))) (dSeq (dDrop (dAppend 5 (dFrz (dTup (foldA [(dFrz (dVar 2)), (dFrz (d2 (binD .Add) (dVar 3) (dCst (.int 1)))), (dFrz (d2 (binD .Add) (dSl (dVar 4) dNoP (dPart (d1 negD (dCst (.int 1))))) (dTup (foldA [(dFrz (dTup (foldA [(dFrz (d2 (binD .Add) (dVar 3) (dCst (.int 1)))), (dFrz (d2 ixD (d2 ixD (dVar 4) (d1 negD (dCst (.int 1)))) (dCst (.int 1))))])))]))))]))))) (dSeq (dDrop (dAppend 5 (dFrz (dTup (foldA [(dFrz (dVar 2)), (dFrz (dVar 3)), (dFrz (d2 (binD .Add) (dSl (dVar 4) dNoP (dPart (d1 negD (dCst (.int 1))))) (dTup (foldA [(dFrz (dTup (foldA [(dFrz (dVar 3)), (dFrz (dCst .non))])))]))))]))))) (dIf (dAndT (dTB (d2 (cmpD' .Gt) (d2 ixD (d2 ixD (dVar 4) (dCst (.int 0))) (dCst (.int 0))) (dVar 2))) (dTB (d2 (cmpD' .Gt) (dVar 3) (dVar 2)))) (dDrop (dAppend 5 (dFrz (dTup (foldA [(dFrz (d2 (binD .Add) (dVar 2) (dCst (.int 1)))), (dFrz (dVar 3)), (dFrz (dVar 4))]))))) dPass))) dPass) (dRet (dCall 2 F__law_pick (foldA [(dVar 0), (dIfE (dAndT (dTB (d2 (cmpD' .Gt) (dPrim (bltD .len) (foldA [(dVar 5)])) (dCst (.int 1)))) (dTB (d2 (cmpD' .Gt) (dCall 2 F__law_take (foldA [(dVar 0), (dCst (.int 4))])) (dCst (.int 0))))) (dSl (dVar 5) (dPart (dCst (.int 1))) dNoP) (dVar 5))])))))) := by kernel_rfl
theorem s__law_near : TabS kw d__law_near := ⟨⟨rfl, rfl, rfl, by decide +kernel, rfl, by decide +kernel, by decide +kernel⟩, .inl rfl, fun _ _ _ _ _ _ us hl => match us, hl with | [_, _], _ => rfl, fun ks hk _ => (kb_no (by decide +kernel) hk).elim⟩
def d_is_tuple : DI := ⟨"is_tuple", none, top 10, ["value", "many"], ["value", "many"], 0⟩
def t_is_tuple : List DI := d_is_tuple :: t__law_near
noncomputable def F_is_tuple : FV := d_is_tuple.F kw cst (lev t__law_near) (tabR kw cst t__law_near) false
noncomputable def H_is_tuple : FV := d_is_tuple.F kw cst (lev t__law_near) (tabR kw cst t__law_near) true
theorem f_is_tuple : F_is_tuple = dFn 2 2 (dRet (dAndE (dIsi .tuple (dVar 0)) (d2 (cmpD' .Eq) (dPrim (bltD .len) (foldA [(dVar 0)])) (dVar 1)))) := by kernel_rfl
theorem s_is_tuple : TabS kw d_is_tuple := ⟨⟨rfl, rfl, rfl, by decide +kernel, rfl, by decide +kernel, by decide +kernel⟩, .inl rfl, fun _ _ _ _ _ _ us hl => match us, hl with | [_, _], _ => rfl, fun ks hk _ => (kb_no (by decide +kernel) hk).elim⟩
def d_is_int : DI := ⟨"is_int", none, top 7, ["value"], ["value"], 0⟩
def t_is_int : List DI := d_is_int :: t_is_tuple
noncomputable def F_is_int : FV := d_is_int.F kw cst (lev t_is_tuple) (tabR kw cst t_is_tuple) false
noncomputable def H_is_int : FV := d_is_int.F kw cst (lev t_is_tuple) (tabR kw cst t_is_tuple) true
theorem f_is_int : F_is_int = dFn 1 1 (dRet (dAndE (dIsi .int (dVar 0)) (dNotE (dIsi .bool (dVar 0))))) := by kernel_rfl
theorem s_is_int : TabS kw d_is_int := ⟨⟨rfl, rfl, rfl, by decide +kernel, rfl, by decide +kernel, by decide +kernel⟩, .inl rfl, fun _ _ _ _ _ _ us hl => match us, hl with | [_], _ => rfl, fun ks hk _ => (kb_no (by decide +kernel) hk).elim⟩
def d_is_from : DI := ⟨"is_from", none, top 8, ["value", "least"], ["value", "least"], 0⟩
def t_is_from : List DI := d_is_from :: t_is_int
noncomputable def F_is_from : FV := d_is_from.F kw cst (lev t_is_int) (tabR kw cst t_is_int) false
noncomputable def H_is_from : FV := d_is_from.F kw cst (lev t_is_int) (tabR kw cst t_is_int) true
theorem f_is_from : F_is_from = dFn 2 2 (dRet (dAndE (dCall 1 F_is_int (foldA [(dVar 0)])) (d2 (cmpD' .GtE) (dVar 0) (dVar 1)))) := by kernel_rfl
theorem s_is_from : TabS kw d_is_from := ⟨⟨rfl, rfl, rfl, by decide +kernel, rfl, by decide +kernel, by decide +kernel⟩, .inl rfl, fun _ _ _ _ _ _ us hl => match us, hl with | [_, _], _ => rfl, fun ks hk _ => (kb_no (by decide +kernel) hk).elim⟩
def d_is_name : DI := ⟨"is_name", none, top 9, ["value"], ["value"], 0⟩
def t_is_name : List DI := d_is_name :: t_is_from
noncomputable def F_is_name : FV := d_is_name.F kw cst (lev t_is_from) (tabR kw cst t_is_from) false
noncomputable def H_is_name : FV := d_is_name.F kw cst (lev t_is_from) (tabR kw cst t_is_from) true
theorem f_is_name : F_is_name = dFn 1 1 (dRet (dAndE (dCall 2 F_is_from (foldA [(dVar 0), (dCst (.int 0))])) (d2 (cmpD' .LtE) (dVar 0) (dCst (.int 31))))) := by kernel_rfl
theorem s_is_name : TabS kw d_is_name := ⟨⟨rfl, rfl, rfl, by decide +kernel, rfl, by decide +kernel, by decide +kernel⟩, .inl rfl, fun _ _ _ _ _ _ us hl => match us, hl with | [_], _ => rfl, fun ks hk _ => (kb_no (by decide +kernel) hk).elim⟩
def d_check_number : DI := ⟨"check_number", none, top 12, ["value", "place", "entry"], ["value"], 0⟩
def t_check_number : List DI := d_check_number :: t_is_name
noncomputable def F_check_number : FV := d_check_number.F kw cst (lev t_is_name) (tabR kw cst t_is_name) false
noncomputable def H_check_number : FV := d_check_number.F kw cst (lev t_is_name) (tabR kw cst t_is_name) true
theorem f_check_number : F_check_number = dFn 1 3 (dSeq (dIf (dOrT (dNotT (dTr (dIsi .tuple (dVar 0)))) (dTB (d2 (cmpD' .Lt) (dPrim (bltD .len) (foldA [(dVar 0)])) (dCst (.int 2))))) (dRaise "BadNumber" "at" (dFrz (d1 negD (dCst (.int 1))))) dPass) (dSeq (dFor (dEnum (foldA [(dFrz (dVar 0))])) (.tp [1, 2]) (dIf (dNotT (dTr (dCall 1 F_is_int (foldA [(dVar 2)])))) (dRaise "BadNumber" "at" (dFrz (dVar 1))) dPass)) (dSeq (dIf (dTB (d2 (cmpD' .Lt) (d2 ixD (dVar 0) (dCst (.int 0))) (dCst (.int 0)))) (dRaise "BadNumber" "at" (dFrz (dCst (.int 0)))) dPass) (dSeq (dIf (dNotT (dTr (dCall 1 F_is_name (foldA [(dFrz (d2 ixD (dVar 0) (d1 negD (dCst (.int 1)))))])))) (dRaise "BadNumber" "at" (dFrz (d2 (binD .Sub) (dPrim (bltD .len) (foldA [(dVar 0)])) (dCst (.int 1))))) dPass) (dRet (dVar 0)))))) := by kernel_rfl
theorem s_check_number : TabS kw d_check_number := ⟨⟨rfl, rfl, rfl, by decide +kernel, rfl, by decide +kernel, by decide +kernel⟩, .inl rfl, fun _ _ _ _ _ _ us hl => match us, hl with | [_], _ => rfl, fun ks hk _ => (kb_no (by decide +kernel) hk).elim⟩
def d_is_told : DI := ⟨"is_told", none, top 15, ["value"], ["value"], 0⟩
def t_is_told : List DI := d_is_told :: t_check_number
noncomputable def F_is_told : FV := d_is_told.F kw cst (lev t_check_number) (tabR kw cst t_check_number) false
noncomputable def H_is_told : FV := d_is_told.F kw cst (lev t_check_number) (tabR kw cst t_check_number) true
theorem f_is_told : F_is_told = dFn 1 1 (dSeq (dIf (dTB (d2 (cmpD' .Is) (dVar 0) (dCst .non))) (dRet (dCst (.bl true))) dPass) (dSeq (dTryO (dDrop (dCall 1 F_check_number (foldA [(dVar 0)]))) cst.exm "BadNumber" (dRet (dCst (.bl false)))) (dRet (dCst (.bl true))))) := by kernel_rfl
theorem s_is_told : TabS kw d_is_told := ⟨⟨rfl, rfl, rfl, by decide +kernel, rfl, by decide +kernel, by decide +kernel⟩, .inl rfl, fun _ _ _ _ _ _ us hl => match us, hl with | [_], _ => rfl, fun ks hk _ => (kb_no (by decide +kernel) hk).elim⟩
def d_may_be_first : DI := ⟨"may_be_first", none, top 19, ["head", "step", "serial", "number"], ["head", "step"], 0⟩
def t_may_be_first : List DI := d_may_be_first :: t_is_told
noncomputable def F_may_be_first : FV := d_may_be_first.F kw cst (lev t_is_told) (tabR kw cst t_is_told) false
noncomputable def H_may_be_first : FV := d_may_be_first.F kw cst (lev t_is_told) (tabR kw cst t_is_told) true
theorem f_may_be_first : F_may_be_first = dFn 2 4 (dSeq (dUnp (.tp [2, 3]) (dVar 1)) (dSeq (dIf (dAndT (dTB (d2 (cmpD' .Eq) (dVar 0) (dCst (.int 0)))) (dTB (d2 (cmpD' .Eq) (dVar 2) (dCst (.int 0))))) (dRet (d2 (cmpD' .IsNot) (dVar 3) (dCst .non))) dPass) (dRet (d2 (cmpD' .GtE) (dVar 2) (dPrim (bltD .max) (foldA [(dVar 0), (dCst (.int 1))])))))) := by kernel_rfl
theorem s_may_be_first : TabS kw d_may_be_first := ⟨⟨rfl, rfl, rfl, by decide +kernel, rfl, by decide +kernel, by decide +kernel⟩, .inl rfl, fun _ _ _ _ _ _ us hl => match us, hl with | [_, _], _ => rfl, fun ks hk _ => (kb_no (by decide +kernel) hk).elim⟩
def d_is_step : DI := ⟨"is_step", none, top 20, ["steps", "at", "head", "tail", "step", "good"], ["steps", "at", "head", "tail"], 0⟩
def t_is_step : List DI := d_is_step :: t_may_be_first
noncomputable def F_is_step : FV := d_is_step.F kw cst (lev t_may_be_first) (tabR kw cst t_may_be_first) false
noncomputable def H_is_step : FV := d_is_step.F kw cst (lev t_may_be_first) (tabR kw cst t_may_be_first) true
theorem f_is_step : F_is_step = dFn 4 6 (dSeq (dSet 4 (d2 ixD (dVar 0) (dVar 1))) (dSeq (dIf (dOrT (dNotT (dTr (dCall 2 F_is_tuple (foldA [(dVar 4), (dCst (.int 2))])))) (dOrT (dNotT (dTr (dCall 2 F_is_from (foldA [(dFrz (d2 ixD (dVar 4) (dCst (.int 0)))), (dCst (.int 0))])))) (dNotT (dTr (dCall 1 F_is_told (foldA [(dFrz (d2 ixD (dVar 4) (dCst (.int 1))))])))))) (dRet (dCst (.bl false))) dPass) (dSeq (dIf (dTB (d2 (cmpD' .Eq) (dVar 1) (dCst (.int 0)))) (dSet 5 (dCall 2 F_may_be_first (foldA [(dVar 2), (dVar 4)]))) (dSet 5 (dAndE (d2 (cmpD' .Lt) (d2 ixD (d2 ixD (dVar 0) (d2 (binD .Sub) (dVar 1) (dCst (.int 1)))) (dCst (.int 0))) (d2 ixD (dVar 4) (dCst (.int 0)))) (dCall 2 F_is_below (foldA [(dFrz (d2 ixD (d2 ixD (dVar 0) (d2 (binD .Sub) (dVar 1) (dCst (.int 1)))) (dCst (.int 1)))), (dFrz (d2 ixD (dVar 4) (dCst (.int 1))))]))))) (dRet (dAndE (dVar 5) (dOrE (d2 (cmpD' .Lt) (dVar 1) (d2 (binD .Sub) (dPrim (bltD .len) (foldA [(dVar 0)])) (dCst (.int 1)))) (d2 (cmpD' .Eq) (d2 ixD (dVar 4) (dCst (.int 0))) (dVar 3)))))))) := by kernel_rfl
theorem s_is_step : TabS kw d_is_step := ⟨⟨rfl, rfl, rfl, by decide +kernel, rfl, by decide +kernel, by decide +kernel⟩, .inl rfl, fun _ _ _ _ _ _ us hl => match us, hl with | [_, _, _, _], _ => rfl, fun ks hk _ => (kb_no (by decide +kernel) hk).elim⟩
def d_row_of : DI := ⟨"row_of", none, top 21, ["state", "head", "tail", "steps", "at"], ["state"], 0⟩
def t_row_of : List DI := d_row_of :: t_is_step
noncomputable def F_row_of : FV := d_row_of.F kw cst (lev t_is_step) (tabR kw cst t_is_step) false
noncomputable def H_row_of : FV := d_row_of.F kw cst (lev t_is_step) (tabR kw cst t_is_step) true
theorem f_row_of : F_row_of = dFn 1 5 (dSeq (dIf (dOrT (dNotT (dTr (dCall 2 F_is_tuple (foldA [(dVar 0), (dCst (.int 3))])))) (dNotT (dTr (dIsi .tuple (d2 ixD (dVar 0) (dCst (.int 2))))))) (dRaise "BadRow" "at" (dFrz (d1 negD (dCst (.int 1))))) dPass) (dSeq (dUnp (.tp [1, 2, 3]) (dVar 0)) (dSeq (dIf (dNotT (dTr (dCall 2 F_is_from (foldA [(dVar 1), (dCst (.int 0))])))) (dRaise "BadRow" "at" (dFrz (dCst (.int 0)))) dPass) (dSeq (dIf (dOrT (dNotT (dTr (dCall 2 F_is_from (foldA [(dVar 2), (dVar 1)])))) (dAndT (dTB (d2 (cmpD' .Gt) (dVar 2) (dCst (.int 0)))) (dTB (d2 (cmpD' .Eq) (dPrim (bltD .len) (foldA [(dVar 3)])) (dCst (.int 0)))))) (dRaise "BadRow" "at" (dFrz (dCst (.int 1)))) dPass) (dSeq (dFor (dRng (foldA [(dPrim (bltD .len) (foldA [(dVar 3)]))])) (.nm 4) (dIf (dNotT (dTr (dCall 4 F_is_step (foldA [(dVar 3), (dVar 4), (dVar 1), (dVar 2)])))) (dRaise "BadRow" "at" (dFrz (d2 (binD .Add) (dCst (.int 2)) (dVar 4)))) dPass)) (dRet (dCall 3 F_made_row (foldA [(dVar 1), (dVar 2), (dVar 3)])))))))) := by kernel_rfl
theorem s_row_of : TabS kw d_row_of := ⟨⟨rfl, rfl, rfl, by decide +kernel, rfl, by decide +kernel, by decide +kernel⟩, .inl rfl, fun _ _ _ _ _ _ us hl => match us, hl with | [_], _ => rfl, fun ks hk _ => (kb_no (by decide +kernel) hk).elim⟩
def d_Row_copied : DI := ⟨"copied", some "Row", (Dx.clsBody (top 16)).getD 8 (.Pass ⟨0, 0, 0, 0⟩), ["self"], ["self"], 0⟩
def t_Row_copied : List DI := d_Row_copied :: t_row_of
noncomputable def F_Row_copied : FV := d_Row_copied.F kw cst (lev t_row_of) (tabR kw cst t_row_of) false
noncomputable def H_Row_copied : FV := d_Row_copied.F kw cst (lev t_row_of) (tabR kw cst t_row_of) true
theorem f_Row_copied : F_Row_copied = dFn 1 1 (dRet (dRO (dCall 3 F_made_row (foldA [(dFld cst.fld "head" (dVar 0)), (dFld cst.fld "tail" (dVar 0)), (dFld cst.fld "steps" (dVar 0))])))) := by kernel_rfl
theorem s_Row_copied : TabS kw d_Row_copied := ⟨⟨rfl, rfl, rfl, by decide +kernel, rfl, by decide +kernel, by decide +kernel⟩, .inl rfl, fun _ _ _ _ _ _ us hl => match us, hl with | [_], _ => rfl, fun ks hk _ => (kb_no (by decide +kernel) hk).elim⟩
def d_Row_state : DI := ⟨"state", some "Row", (Dx.clsBody (top 16)).getD 7 (.Pass ⟨0, 0, 0, 0⟩), ["self"], ["self"], 0⟩
def t_Row_state : List DI := d_Row_state :: t_Row_copied
noncomputable def F_Row_state : FV := d_Row_state.F kw cst (lev t_Row_copied) (tabR kw cst t_Row_copied) false
noncomputable def H_Row_state : FV := d_Row_state.F kw cst (lev t_Row_copied) (tabR kw cst t_Row_copied) true
theorem f_Row_state : F_Row_state = dFn 1 1 (dRet (dRO (dTup (foldA [(dFrz (dFld cst.fld "head" (dVar 0))), (dFrz (dFld cst.fld "tail" (dVar 0))), (dFrz (dPrim (bltD .tuple) (foldA [(dFld cst.fld "steps" (dVar 0))])))])))) := by kernel_rfl
theorem s_Row_state : TabS kw d_Row_state := ⟨⟨rfl, rfl, rfl, by decide +kernel, rfl, by decide +kernel, by decide +kernel⟩, .inl rfl, fun _ _ _ _ _ _ us hl => match us, hl with | [_], _ => rfl, fun ks hk _ => (kb_no (by decide +kernel) hk).elim⟩
def d_Row_since : DI := ⟨"since", some "Row", (Dx.clsBody (top 16)).getD 5 (.Pass ⟨0, 0, 0, 0⟩), ["self", "k"], ["self", "k"], 0⟩
def t_Row_since : List DI := d_Row_since :: t_Row_state
noncomputable def F_Row_since : FV := d_Row_since.F kw cst (lev t_Row_state) (tabR kw cst t_Row_state) false
noncomputable def H_Row_since : FV := d_Row_since.F kw cst (lev t_Row_state) (tabR kw cst t_Row_state) true
theorem f_Row_since : F_Row_since = dFn 2 2 (dSeq (dIf (dROT (dNotT (dTB (dChain .LtE .LtE (dPrim (bltD .max) (foldA [(dFld cst.fld "head" (dVar 0)), (dCst (.int 1))])) (dVar 1) (dFld cst.fld "tail" (dVar 0)))))) (dRaise "Refused" "value" (dFrz (dVar 1))) dPass) (dRet (dRO (d2 ixD (d2 ixD (dMeth false [(("Row", some "steps_from"), ⟨["self", "k"], F_Row_steps_from, H_Row_steps_from⟩)] "steps_from" (dVar 0) [(dVar 1)]) (dCst (.int 0))) (dCst (.int 1)))))) := by kernel_rfl
theorem s_Row_since : TabS kw d_Row_since := ⟨⟨rfl, rfl, rfl, by decide +kernel, rfl, by decide +kernel, by decide +kernel⟩, .inl rfl, fun _ _ _ _ _ _ us hl => match us, hl with | [_, _], _ => rfl, fun ks hk _ => (kb_no (by decide +kernel) hk).elim⟩
def d__law_since : DI := ⟨"_law_since", none, top 42, ["row", "k"], ["row", "k"], 0⟩
def t__law_since : List DI := d__law_since :: t_Row_since
noncomputable def F__law_since : FV := d__law_since.F kw cst (lev t_Row_since) (tabR kw cst t_Row_since) false
noncomputable def H__law_since : FV := d__law_since.F kw cst (lev t_Row_since) (tabR kw cst t_Row_since) true
theorem f__law_since : F__law_since = dFn 2 2 (dTryO (dRet (dRO (dTup (foldA [(dFrz (dCst (.str "is"))), (dFrz (dMeth false [(("Row", some "since"), ⟨["self", "k"], F_Row_since, H_Row_since⟩)] "since" (dVar 0) [(dVar 1)]))])))) cst.exm "Refused" (dRet (dCst (.str "refused")))) := by kernel_rfl
theorem s__law_since : TabS kw d__law_since := ⟨⟨rfl, rfl, rfl, by decide +kernel, rfl, by decide +kernel, by decide +kernel⟩, .inl rfl, fun _ _ _ _ _ _ us hl => match us, hl with | [_, _], _ => rfl, fun ks hk _ => (kb_no (by decide +kernel) hk).elim⟩
def d_Row_least : DI := ⟨"least", some "Row", (Dx.clsBody (top 16)).getD 4 (.Pass ⟨0, 0, 0, 0⟩), ["self"], ["self"], 0⟩
def t_Row_least : List DI := d_Row_least :: t__law_since
noncomputable def F_Row_least : FV := d_Row_least.F kw cst (lev t__law_since) (tabR kw cst t__law_since) false
noncomputable def H_Row_least : FV := d_Row_least.F kw cst (lev t__law_since) (tabR kw cst t__law_since) true
theorem f_Row_least : F_Row_least = dFn 1 1 (dRet (dRO (dIfE (dTB (d2 (cmpD' .Gt) (dPrim (bltD .len) (foldA [(dFld cst.fld "steps" (dVar 0))])) (dCst (.int 0)))) (d2 ixD (d2 ixD (dFld cst.fld "steps" (dVar 0)) (dCst (.int 0))) (dCst (.int 1))) (dCst .non)))) := by kernel_rfl
theorem s_Row_least : TabS kw d_Row_least := ⟨⟨rfl, rfl, rfl, by decide +kernel, rfl, by decide +kernel, by decide +kernel⟩, .inl rfl, fun _ _ _ _ _ _ us hl => match us, hl with | [_], _ => rfl, fun ks hk _ => (kb_no (by decide +kernel) hk).elim⟩
def d__law_apart : DI := ⟨"_law_apart", none, top 47, ["one", "other", "here", "there", "first", "last", "k", "fall"], ["one", "other", "here", "there"], 0⟩
def t__law_apart : List DI := d__law_apart :: t_Row_least
noncomputable def F__law_apart : FV := d__law_apart.F kw cst (lev t_Row_least) (tabR kw cst t_Row_least) false
noncomputable def H__law_apart : FV := d__law_apart.F kw cst (lev t_Row_least) (tabR kw cst t_Row_least) true
theorem f__law_apart : F__law_apart = dFn 4 8 (dSeq (dPar [4, 5] (foldA [(dPrim (bltD .min) (foldA [(d2 ixD (dVar 2) (dCst (.int 0))), (d2 ixD (dVar 3) (dCst (.int 0)))])), (dPrim (bltD .min) (foldA [(d2 ixD (dVar 2) (dCst (.int 1))), (d2 ixD (dVar 3) (dCst (.int 1)))]))])) (dSeq (dIf (dTB (d2 (cmpD' .NotEq) (d2 ixD (dVar 2) (dCst (.int 1))) (d2 ixD (dVar 3) (dCst (.int 1))))) (dRet (d2 (cmpD' .Eq) (dPrim (bltD .sorted) (foldA [(dLst (foldA [(dFrz (dCall 2 F__law_take_in (foldA [(dVar 0), (dTup (foldA [(dFrz (dCst (.str "told"))), (dFrz (d2 (binD .Add) (dVar 5) (dCst (.int 1)))), (dFrz (dCst .non))]))]))), (dFrz (dCall 2 F__law_take_in (foldA [(dVar 1), (dTup (foldA [(dFrz (dCst (.str "told"))), (dFrz (d2 (binD .Add) (dVar 5) (dCst (.int 1)))), (dFrz (dCst .non))]))])))]))])) (dLst (foldA [(dFrz (dCst (.bl false))), (dFrz (dCst (.bl true)))])))) dPass) (dSeq (dIf (dTB (d2 (cmpD' .NotEq) (d2 ixD (dVar 2) (dCst (.int 0))) (d2 ixD (dVar 3) (dCst (.int 0))))) (dSeq (dSet 6 (dPrim (bltD .max) (foldA [(d2 ixD (dVar 2) (dCst (.int 0))), (d2 ixD (dVar 3) (dCst (.int 0)))]))) (dRet (d2 (cmpD' .Eq) (dPrim (bltD .sorted) (foldA [(dLst (foldA [(dFrz (dCall 2 F__law_take_in (foldA [(dVar 0), (dTup (foldA [(dFrz (dCst (.str "acked"))), (dFrz (dVar 6)), (dFrz (dCst .non))]))]))), (dFrz (dCall 2 F__law_take_in (foldA [(dVar 1), (dTup (foldA [(dFrz (dCst (.str "acked"))), (dFrz (dVar 6)), (dFrz (dCst .non))]))])))]))])) (dLst (foldA [(dFrz (dCst (.bl false))), (dFrz (dCst (.bl true)))]))))) dPass) (dSeq (dFor (dSeqIt (dFrz (dLc (dSeqIt (dFrz (d2 (binD .Add) (d2 ixD (dVar 2) (dCst (.int 2))) (d2 ixD (dVar 3) (dCst (.int 2)))))) (.nm 7) dYes (dFrz (d2 ixD (dVar 7) (dCst (.int 0)))) [7]))) (.nm 6) (dIf (dROT (dAndT (dTB (d2 (cmpD' .Gt) (dVar 6) (dCst (.int 0)))) (dNotT (dTr (dCall 2 F__law_like (foldA [(dCall 2 F__law_since (foldA [(dVar 0), (dVar 6)])), (dCall 2 F__law_since (foldA [(dVar 1), (dVar 6)]))])))))) (dRet (dCst (.bl true))) dPass)) (dRet (dRO (dNotE (dCall 2 F__law_like (foldA [(dMeth false [(("Row", some "least"), ⟨["self"], F_Row_least, H_Row_least⟩)] "least" (dVar 0) []), (dMeth false [(("Row", some "least"), ⟨["self"], F_Row_least, H_Row_least⟩)] "least" (dVar 1) [])]))))))))) := by kernel_rfl
theorem s__law_apart : TabS kw d__law_apart := ⟨⟨rfl, rfl, rfl, by decide +kernel, rfl, by decide +kernel, by decide +kernel⟩, .inl rfl, fun _ _ _ _ _ _ us hl => match us, hl with | [_, _, _, _], _ => rfl, fun ks hk _ => (kb_no (by decide +kernel) hk).elim⟩
def d__law_least : DI := ⟨"_law_least", none, top 38, ["reports", "k", "found", "serial", "number"], ["reports", "k"], 0⟩
def t__law_least : List DI := d__law_least :: t__law_apart
noncomputable def F__law_least : FV := d__law_least.F kw cst (lev t__law_apart) (tabR kw cst t__law_apart) false
noncomputable def H__law_least : FV := d__law_least.F kw cst (lev t__law_apart) (tabR kw cst t__law_apart) true
theorem f__law_least : F__law_least = dFn 2 5 (dSeq (dSet 2 (dCst .non)) (dSeq (dFor (dSeqIt (dFrz (dVar 0))) (.tp [3, 4]) (dIf (dAndT (dTB (d2 (cmpD' .GtE) (dVar 3) (dVar 1))) (dAndT (dTB (d2 (cmpD' .IsNot) (dVar 4) (dCst .non))) (dOrT (dTB (d2 (cmpD' .Is) (dVar 2) (dCst .non))) (dTB (d2 (cmpD' .Lt) (dVar 4) (dVar 2)))))) (dSet 2 (dVar 4)) dPass)) (dRet (dVar 2)))) := by kernel_rfl
theorem s__law_least : TabS kw d__law_least := ⟨⟨rfl, rfl, rfl, by decide +kernel, rfl, by decide +kernel, by decide +kernel⟩, .inl rfl, fun _ _ _ _ _ _ us hl => match us, hl with | [_, _], _ => rfl, fun ks hk _ => (kb_no (by decide +kernel) hk).elim⟩
def d__law_whole : DI := ⟨"_law_whole", none, top 44, ["reports", "first", "last", "ks", "found", "k"], ["reports", "first", "last", "ks"], 0⟩
def t__law_whole : List DI := d__law_whole :: t__law_least
noncomputable def F__law_whole : FV := d__law_whole.F kw cst (lev t__law_least) (tabR kw cst t__law_least) false
noncomputable def H__law_whole : FV := d__law_whole.F kw cst (lev t__law_least) (tabR kw cst t__law_least) true
theorem f__law_whole : F__law_whole = dFn 4 6 (dSeq (dSet 4 (dLst (foldA [(dFrz (dCall 3 F__law_state (foldA [(dVar 0), (dVar 1), (dVar 2)]))), (dFrz (dCall 2 F__law_least (foldA [(dVar 0), (dVar 1)]))), (dFrz (dIfE (dTB (d2 (cmpD' .NotEq) (dVar 0) (dLst (foldA [])))) (d2 ixD (d2 ixD (dVar 0) (d1 negD (dCst (.int 1)))) (dCst (.int 1))) (dCst .non)))]))) (dSeq (dFor (dSeqIt (dFrz (dVar 3))) (.nm 5) (dDrop (dAppend 4 (dFrz (dIfE (dOrT (dTB (d2 (cmpD' .Lt) (dVar 5) (dCst (.int 1)))) (dOrT (dTB (d2 (cmpD' .Lt) (dVar 5) (dVar 1))) (dTB (d2 (cmpD' .Gt) (dVar 5) (dVar 2))))) (dCst (.str "refused")) (dTup (foldA [(dFrz (dCst (.str "is"))), (dFrz (dCall 2 F__law_least (foldA [(dVar 0), (dVar 5)])))]))))))) (dRet (dVar 4)))) := by kernel_rfl
theorem s__law_whole : TabS kw d__law_whole := ⟨⟨rfl, rfl, rfl, by decide +kernel, rfl, by decide +kernel, by decide +kernel⟩, .inl rfl, fun _ _ _ _ _ _ us hl => match us, hl with | [_, _, _, _], _ => rfl, fun ks hk _ => (kb_no (by decide +kernel) hk).elim⟩
def d_Row_newest : DI := ⟨"newest", some "Row", (Dx.clsBody (top 16)).getD 6 (.Pass ⟨0, 0, 0, 0⟩), ["self"], ["self"], 0⟩
def t_Row_newest : List DI := d_Row_newest :: t__law_whole
noncomputable def F_Row_newest : FV := d_Row_newest.F kw cst (lev t__law_whole) (tabR kw cst t__law_whole) false
noncomputable def H_Row_newest : FV := d_Row_newest.F kw cst (lev t__law_whole) (tabR kw cst t__law_whole) true
theorem f_Row_newest : F_Row_newest = dFn 1 1 (dRet (dRO (dIfE (dTB (d2 (cmpD' .Gt) (dPrim (bltD .len) (foldA [(dFld cst.fld "steps" (dVar 0))])) (dCst (.int 0)))) (d2 ixD (d2 ixD (dFld cst.fld "steps" (dVar 0)) (d1 negD (dCst (.int 1)))) (dCst (.int 1))) (dCst .non)))) := by kernel_rfl
theorem s_Row_newest : TabS kw d_Row_newest := ⟨⟨rfl, rfl, rfl, by decide +kernel, rfl, by decide +kernel, by decide +kernel⟩, .inl rfl, fun _ _ _ _ _ _ us hl => match us, hl with | [_], _ => rfl, fun ks hk _ => (kb_no (by decide +kernel) hk).elim⟩
def d__law_answers : DI := ⟨"_law_answers", none, top 43, ["row", "ks", "k"], ["row", "ks"], 0⟩
def t__law_answers : List DI := d__law_answers :: t_Row_newest
noncomputable def F__law_answers : FV := d__law_answers.F kw cst (lev t_Row_newest) (tabR kw cst t_Row_newest) false
noncomputable def H__law_answers : FV := d__law_answers.F kw cst (lev t_Row_newest) (tabR kw cst t_Row_newest) true
theorem f__law_answers : F__law_answers = dFn 2 3 (dRet (dRO (d2 (binD .Add) (dLst (foldA [(dFrz (dMeth false [(("Row", some "state"), ⟨["self"], F_Row_state, H_Row_state⟩)] "state" (dVar 0) [])), (dFrz (dMeth false [(("Row", some "least"), ⟨["self"], F_Row_least, H_Row_least⟩)] "least" (dVar 0) [])), (dFrz (dMeth false [(("Row", some "newest"), ⟨["self"], F_Row_newest, H_Row_newest⟩)] "newest" (dVar 0) []))])) (dLc (dSeqIt (dFrz (dVar 1))) (.nm 2) dYes (dFrz (dCall 2 F__law_since (foldA [(dVar 0), (dVar 2)]))) [2])))) := by kernel_rfl
theorem s__law_answers : TabS kw d__law_answers := ⟨⟨rfl, rfl, rfl, by decide +kernel, rfl, by decide +kernel, by decide +kernel⟩, .inl rfl, fun _ _ _ _ _ _ us hl => match us, hl with | [_, _], _ => rfl, fun ks hk _ => (kb_no (by decide +kernel) hk).elim⟩
def d__law_part_two : DI := ⟨"_law_part_two", none, top 48, ["script", "box", "few", "drawn", "second", "row", "reports", "first", "last", "state", "near", "other", "rows", "kept", "twin", "turn", "ks", "due", "deed", "taken", "one"], ["script"], 0⟩
def t__law_part_two : List DI := d__law_part_two :: t__law_answers
noncomputable def F__law_part_two : FV := d__law_part_two.F kw cst (lev t__law_answers) (tabR kw cst t__law_answers) false
noncomputable def H__law_part_two : FV := d__law_part_two.F kw cst (lev t__law_answers) (tabR kw cst t__law_answers) true
noncomputable def C__law_part_two : Cc := ctx d__law_part_two.N (defScope d__law_part_two.st) (lev t__law_answers) (tabR kw cst t__law_answers) kw cst false
theorem z__law_part_two_0 : (dS C__law_part_two ((defBody d__law_part_two.st).getD 0 (.Pass ⟨0, 0, 0, 0⟩))) = (dSet 1 (dCall 2 F__law_box (foldA [(dVar 0), (dCst (.int 0))]))) := by kernel_rfl
theorem z__law_part_two_1 : (dS C__law_part_two ((defBody d__law_part_two.st).getD 1 (.Pass ⟨0, 0, 0, 0⟩))) = (dSet 2 (d2 (binD .Add) (dCst (.int 1)) (dCall 2 F__law_take (foldA [(dVar 1), (dCst (.int 4))])))) := by kernel_rfl
theorem z__law_part_two_2 : (dS C__law_part_two ((defBody d__law_part_two.st).getD 2 (.Pass ⟨0, 0, 0, 0⟩))) = (dPar [3, 4] (foldA [(dCall 2 F__law_drawn_two (foldA [(dVar 1), (dVar 2)])), (dCall 2 F__law_drawn_two (foldA [(dCall 2 F__law_box (foldA [(dVar 0), (dCst (.int 1))])), (dVar 2)]))])) := by kernel_rfl
theorem z__law_part_two_3 : (dS C__law_part_two ((defBody d__law_part_two.st).getD 3 (.Pass ⟨0, 0, 0, 0⟩))) = (dIf (dROT (dOrT (dTB (d2 (cmpD' .Is) (dVar 3) (dCst .non))) (dTB (d2 (cmpD' .Is) (dVar 4) (dCst .non))))) (dRet (dCst (.bl false))) dPass) := by kernel_rfl
theorem z__law_part_two_4 : (dS C__law_part_two ((defBody d__law_part_two.st).getD 4 (.Pass ⟨0, 0, 0, 0⟩))) = (dUnp (.tp [5, 6, 7, 8]) (dVar 3)) := by kernel_rfl
theorem z__law_part_two_5 : (dS C__law_part_two ((defBody d__law_part_two.st).getD 5 (.Pass ⟨0, 0, 0, 0⟩))) = (dPar [9, 10] (foldA [(dCall 3 F__law_state (foldA [(dVar 6), (dVar 7), (dVar 8)])), (dRO (dCall 3 F__law_state (foldA [(dFrz (d2 ixD (dVar 4) (dCst (.int 1)))), (dFrz (d2 ixD (dVar 4) (dCst (.int 2)))), (dFrz (d2 ixD (dVar 4) (dCst (.int 3))))])))])) := by kernel_rfl
theorem z__law_part_two_6 : (dS C__law_part_two ((defBody d__law_part_two.st).getD 6 (.Pass ⟨0, 0, 0, 0⟩))) = (dSet 11 (dIfE (dTB (d2 (cmpD' .Gt) (dCall 2 F__law_take (foldA [(dVar 1), (dCst (.int 3))])) (dCst (.int 0)))) (dCall 2 F__law_near (foldA [(dVar 1), (dVar 9)])) (dVar 10))) := by kernel_rfl
theorem z__law_part_two_8 : (dS C__law_part_two ((defBody d__law_part_two.st).getD 8 (.Pass ⟨0, 0, 0, 0⟩))) = (dPar [13, 14] (foldA [(dRO (dMeth false [(("Row", some "copied"), ⟨["self"], F_Row_copied, H_Row_copied⟩)] "copied" (dVar 5) [])), (dCall 1 F_row_of (foldA [(dVar 9)]))])) := by kernel_rfl
theorem z__law_part_two_9 : (dS C__law_part_two ((defBody d__law_part_two.st).getD 9 (.Pass ⟨0, 0, 0, 0⟩))) = (dIf (dROT (dNotT (dTr (dCall 2 F__law_like (foldA [(dMeth false [(("Row", some "state"), ⟨["self"], F_Row_state, H_Row_state⟩)] "state" (d2 ixD (dVar 4) (dCst (.int 0))) []), (dVar 10)]))))) (dRet (dCst (.bl false))) dPass) := by kernel_rfl
theorem z__law_part_two_10 : (dS C__law_part_two ((defBody d__law_part_two.st).getD 10 (.Pass ⟨0, 0, 0, 0⟩))) = (dIf (dAndT (dTB (d2 (cmpD' .NotEq) (dVar 9) (dVar 11))) (dNotT (dTr (dCall 4 F__law_apart (foldA [(dCall 1 F_row_of (foldA [(dVar 9)])), (dCall 1 F_row_of (foldA [(dVar 11)])), (dVar 9), (dVar 11)]))))) (dRet (dCst (.bl false))) dPass) := by kernel_rfl
theorem z__law_part_two_11 : (dS C__law_part_two ((defBody d__law_part_two.st).getD 11 (.Pass ⟨0, 0, 0, 0⟩))) = (dIf (dTB (d2 (cmpD' .Eq) (dVar 9) (dVar 11))) (dDrop (dAppend 12 (dFrz (dCall 1 F_row_of (foldA [(dVar 11)]))))) dPass) := by kernel_rfl
theorem z__law_part_two_12 : (dS C__law_part_two ((defBody d__law_part_two.st).getD 12 (.Pass ⟨0, 0, 0, 0⟩))) = (dSet 1 (dCall 2 F__law_box (foldA [(dVar 0), (dCst (.int 2))]))) := by kernel_rfl
theorem z__law_part_two_13 : (dS C__law_part_two ((defBody d__law_part_two.st).getD 13 (.Pass ⟨0, 0, 0, 0⟩))) = (dFor (dRng (foldA [(dCall 2 F__law_pick (foldA [(dVar 1), (dFrz (dLst (foldA [(dFrz (dCst (.int 4))), (dFrz (dCst (.int 8))), (dFrz (dCst (.int 16)))])))]))])) (.nm 15) (dSeq (dSet 16 (dLst (foldA [(dFrz (dVar 7)), (dFrz (dVar 8)), (dFrz (d2 (binD .Add) (dVar 7) (dCall 2 F__law_take (foldA [(dVar 1), (dFrz (d2 (binD .Add) (d2 (binD .Sub) (dVar 8) (dVar 7)) (dCst (.int 1))))])))), (dFrz (d2 (binD .Add) (dVar 8) (dCst (.int 1)))), (dFrz (d2 (binD .Sub) (dVar 7) (dCst (.int 1))))]))) (dSeq (dIf (dTB (d2 (cmpD' .NotEq) (dVar 6) (dLst (foldA [])))) (dDrop (dAppend 16 (dFrz (d2 (binD .Add) (d2 ixD (dCall 2 F__law_pick (foldA [(dVar 1), (dVar 6)])) (dCst (.int 0))) (dCst (.int 1)))))) dPass) (dSeq (dSet 17 (dCall 4 F__law_whole (foldA [(dVar 6), (dVar 7), (dVar 8), (dVar 16)]))) (dSeq (dIf (dROT (dAndT (dTB (d2 (cmpD' .NotEq) (d2 (binD .Mod) (dVar 15) (dCst (.int 3))) (dCst (.int 1)))) (dTB (d2 (cmpD' .NotEq) (dLc (dSeqIt (dFrz (dVar 12))) (.nm 20) (dNotT (dTr (dCall 2 F__law_like (foldA [(dCall 2 F__law_answers (foldA [(dVar 20), (dVar 16)])), (dVar 17)])))) (dFrz (dCst (.int 1))) [20]) (dLst (foldA [])))))) (dRet (dCst (.bl false))) dPass) (dSeq (dSet 18 (dCall 4 F__law_deed (foldA [(dVar 1), (dVar 7), (dVar 8), (dVar 2)]))) (dSeq (dSet 19 (dCall 3 F__law_due (foldA [(dVar 18), (dVar 7), (dVar 8)]))) (dSeq (dIf (dTB (d2 (cmpD' .NotEq) (dLcM 12 20 (dTB (d2 (cmpD' .NotEq) (dCall 2 F__law_take_in (foldA [(dVar 20), (dVar 18)])) (dVar 19))) (dFrz (dCst (.int 1))) [20]) (dLst (foldA [])))) (dRet (dCst (.bl false))) dPass) (dIf (dAndT (dTr (dVar 19)) (dTB (d2 (cmpD' .Eq) (d2 ixD (dVar 18) (dCst (.int 0))) (dCst (.str "told"))))) (dSeq (dSet 8 (d2 ixD (dVar 18) (dCst (.int 1)))) (dDrop (dAppend 6 (dFrz (dTup (foldA [(dFrz (dVar 8)), (dFrz (d2 ixD (dVar 18) (dCst (.int 2))))])))))) (dIf (dTr (dVar 19)) (dSet 7 (d2 ixD (dVar 18) (dCst (.int 1)))) dPass)))))))))) := by kernel_rfl
theorem z__law_part_two_14 : (dS C__law_part_two ((defBody d__law_part_two.st).getD 14 (.Pass ⟨0, 0, 0, 0⟩))) = (dRet (dRO (dAndE (dCall 2 F__law_like (foldA [(dMeth false [(("Row", some "state"), ⟨["self"], F_Row_state, H_Row_state⟩)] "state" (dVar 13) []), (dVar 9)])) (dAndE (dCall 2 F__law_like (foldA [(dMeth false [(("Row", some "state"), ⟨["self"], F_Row_state, H_Row_state⟩)] "state" (dVar 14) []), (dVar 9)])) (dCall 2 F__law_like (foldA [(dMeth false [(("Row", some "state"), ⟨["self"], F_Row_state, H_Row_state⟩)] "state" (d2 ixD (dVar 12) (dCst (.int 0))) []), (dCall 3 F__law_state (foldA [(dVar 6), (dVar 7), (dVar 8)]))])))))) := by kernel_rfl
theorem f0__law_part_two : F__law_part_two = dFn 1 21 (dSeq (dS C__law_part_two ((defBody d__law_part_two.st).getD 0 (.Pass ⟨0, 0, 0, 0⟩))) (dSeq (dS C__law_part_two ((defBody d__law_part_two.st).getD 1 (.Pass ⟨0, 0, 0, 0⟩))) (dSeq (dS C__law_part_two ((defBody d__law_part_two.st).getD 2 (.Pass ⟨0, 0, 0, 0⟩))) (dSeq (dS C__law_part_two ((defBody d__law_part_two.st).getD 3 (.Pass ⟨0, 0, 0, 0⟩))) (dSeq (dS C__law_part_two ((defBody d__law_part_two.st).getD 4 (.Pass ⟨0, 0, 0, 0⟩))) (dSeq (dS C__law_part_two ((defBody d__law_part_two.st).getD 5 (.Pass ⟨0, 0, 0, 0⟩))) (dSeq (dS C__law_part_two ((defBody d__law_part_two.st).getD 6 (.Pass ⟨0, 0, 0, 0⟩))) (dAlL 12 (foldA [(dFrz (dVar 5)), (dFrz (dCall 1 F_row_of (foldA [(dVar 9)]))), (dFrz (dMeth false [(("Row", some "copied"), ⟨["self"], F_Row_copied, H_Row_copied⟩)] "copied" (dVar 5) [])), (dFrz (dCall 1 F_row_of (foldA [(dMeth false [(("Row", some "state"), ⟨["self"], F_Row_state, H_Row_state⟩)] "state" (dMeth false [(("Row", some "copied"), ⟨["self"], F_Row_copied, H_Row_copied⟩)] "copied" (dVar 5) []) [])])))]) (dSeq (dS C__law_part_two ((defBody d__law_part_two.st).getD 8 (.Pass ⟨0, 0, 0, 0⟩))) dPass) (dSeq (dS C__law_part_two ((defBody d__law_part_two.st).getD 9 (.Pass ⟨0, 0, 0, 0⟩))) (dSeq (dS C__law_part_two ((defBody d__law_part_two.st).getD 10 (.Pass ⟨0, 0, 0, 0⟩))) (dSeq (dS C__law_part_two ((defBody d__law_part_two.st).getD 11 (.Pass ⟨0, 0, 0, 0⟩))) (dSeq (dS C__law_part_two ((defBody d__law_part_two.st).getD 12 (.Pass ⟨0, 0, 0, 0⟩))) (dSeq (dS C__law_part_two ((defBody d__law_part_two.st).getD 13 (.Pass ⟨0, 0, 0, 0⟩))) (dSeq (dS C__law_part_two ((defBody d__law_part_two.st).getD 14 (.Pass ⟨0, 0, 0, 0⟩))) dPass)))))))))))))) := by kernel_rfl
theorem f__law_part_two : F__law_part_two = dFn 1 21 (dSeq (dSet 1 (dCall 2 F__law_box (foldA [(dVar 0), (dCst (.int 0))]))) (dSeq (dSet 2 (d2 (binD .Add) (dCst (.int 1)) (dCall 2 F__law_take (foldA [(dVar 1), (dCst (.int 4))])))) (dSeq (dPar [3, 4] (foldA [(dCall 2 F__law_drawn_two (foldA [(dVar 1), (dVar 2)])), (dCall 2 F__law_drawn_two (foldA [(dCall 2 F__law_box (foldA [(dVar 0), (dCst (.int 1))])), (dVar 2)]))])) (dSeq (dIf (dROT (dOrT (dTB (d2 (cmpD' .Is) (dVar 3) (dCst .non))) (dTB (d2 (cmpD' .Is) (dVar 4) (dCst .non))))) (dRet (dCst (.bl false))) dPass) (dSeq (dUnp (.tp [5, 6, 7, 8]) (dVar 3)) (dSeq (dPar [9, 10] (foldA [(dCall 3 F__law_state (foldA [(dVar 6), (dVar 7), (dVar 8)])), (dRO (dCall 3 F__law_state (foldA [(dFrz (d2 ixD (dVar 4) (dCst (.int 1)))), (dFrz (d2 ixD (dVar 4) (dCst (.int 2)))), (dFrz (d2 ixD (dVar 4) (dCst (.int 3))))])))])) (dSeq (dSet 11 (dIfE (dTB (d2 (cmpD' .Gt) (dCall 2 F__law_take (foldA [(dVar 1), (dCst (.int 3))])) (dCst (.int 0)))) (dCall 2 F__law_near (foldA [(dVar 1), (dVar 9)])) (dVar 10))) (dAlL 12 (foldA [(dFrz (dVar 5)), (dFrz (dCall 1 F_row_of (foldA [(dVar 9)]))), (dFrz (dMeth false [(("Row", some "copied"), ⟨["self"], F_Row_copied, H_Row_copied⟩)] "copied" (dVar 5) [])), (dFrz (dCall 1 F_row_of (foldA [(dMeth false [(("Row", some "state"), ⟨["self"], F_Row_state, H_Row_state⟩)] "state" (dMeth false [(("Row", some "copied"), ⟨["self"], F_Row_copied, H_Row_copied⟩)] "copied" (dVar 5) []) [])])))]) (dSeq (dPar [13, 14] (foldA [(dRO (dMeth false [(("Row", some "copied"), ⟨["self"], F_Row_copied, H_Row_copied⟩)] "copied" (dVar 5) [])), (dCall 1 F_row_of (foldA [(dVar 9)]))])) dPass) (dSeq (dIf (dROT (dNotT (dTr (dCall 2 F__law_like (foldA [(dMeth false [(("Row", some "state"), ⟨["self"], F_Row_state, H_Row_state⟩)] "state" (d2 ixD (dVar 4) (dCst (.int 0))) []), (dVar 10)]))))) (dRet (dCst (.bl false))) dPass) (dSeq (dIf (dAndT (dTB (d2 (cmpD' .NotEq) (dVar 9) (dVar 11))) (dNotT (dTr (dCall 4 F__law_apart (foldA [(dCall 1 F_row_of (foldA [(dVar 9)])), (dCall 1 F_row_of (foldA [(dVar 11)])), (dVar 9), (dVar 11)]))))) (dRet (dCst (.bl false))) dPass) (dSeq (dIf (dTB (d2 (cmpD' .Eq) (dVar 9) (dVar 11))) (dDrop (dAppend 12 (dFrz (dCall 1 F_row_of (foldA [(dVar 11)]))))) dPass) (dSeq (dSet 1 (dCall 2 F__law_box (foldA [(dVar 0), (dCst (.int 2))]))) (dSeq (dFor (dRng (foldA [(dCall 2 F__law_pick (foldA [(dVar 1), (dFrz (dLst (foldA [(dFrz (dCst (.int 4))), (dFrz (dCst (.int 8))), (dFrz (dCst (.int 16)))])))]))])) (.nm 15) (dSeq (dSet 16 (dLst (foldA [(dFrz (dVar 7)), (dFrz (dVar 8)), (dFrz (d2 (binD .Add) (dVar 7) (dCall 2 F__law_take (foldA [(dVar 1), (dFrz (d2 (binD .Add) (d2 (binD .Sub) (dVar 8) (dVar 7)) (dCst (.int 1))))])))), (dFrz (d2 (binD .Add) (dVar 8) (dCst (.int 1)))), (dFrz (d2 (binD .Sub) (dVar 7) (dCst (.int 1))))]))) (dSeq (dIf (dTB (d2 (cmpD' .NotEq) (dVar 6) (dLst (foldA [])))) (dDrop (dAppend 16 (dFrz (d2 (binD .Add) (d2 ixD (dCall 2 F__law_pick (foldA [(dVar 1), (dVar 6)])) (dCst (.int 0))) (dCst (.int 1)))))) dPass) (dSeq (dSet 17 (dCall 4 F__law_whole (foldA [(dVar 6), (dVar 7), (dVar 8), (dVar 16)]))) (dSeq (dIf (dROT (dAndT (dTB (d2 (cmpD' .NotEq) (d2 (binD .Mod) (dVar 15) (dCst (.int 3))) (dCst (.int 1)))) (dTB (d2 (cmpD' .NotEq) (dLc (dSeqIt (dFrz (dVar 12))) (.nm 20) (dNotT (dTr (dCall 2 F__law_like (foldA [(dCall 2 F__law_answers (foldA [(dVar 20), (dVar 16)])), (dVar 17)])))) (dFrz (dCst (.int 1))) [20]) (dLst (foldA [])))))) (dRet (dCst (.bl false))) dPass) (dSeq (dSet 18 (dCall 4 F__law_deed (foldA [(dVar 1), (dVar 7), (dVar 8), (dVar 2)]))) (dSeq (dSet 19 (dCall 3 F__law_due (foldA [(dVar 18), (dVar 7), (dVar 8)]))) (dSeq (dIf (dTB (d2 (cmpD' .NotEq) (dLcM 12 20 (dTB (d2 (cmpD' .NotEq) (dCall 2 F__law_take_in (foldA [(dVar 20), (dVar 18)])) (dVar 19))) (dFrz (dCst (.int 1))) [20]) (dLst (foldA [])))) (dRet (dCst (.bl false))) dPass) (dIf (dAndT (dTr (dVar 19)) (dTB (d2 (cmpD' .Eq) (d2 ixD (dVar 18) (dCst (.int 0))) (dCst (.str "told"))))) (dSeq (dSet 8 (d2 ixD (dVar 18) (dCst (.int 1)))) (dDrop (dAppend 6 (dFrz (dTup (foldA [(dFrz (dVar 8)), (dFrz (d2 ixD (dVar 18) (dCst (.int 2))))])))))) (dIf (dTr (dVar 19)) (dSet 7 (d2 ixD (dVar 18) (dCst (.int 1)))) dPass)))))))))) (dSeq (dRet (dRO (dAndE (dCall 2 F__law_like (foldA [(dMeth false [(("Row", some "state"), ⟨["self"], F_Row_state, H_Row_state⟩)] "state" (dVar 13) []), (dVar 9)])) (dAndE (dCall 2 F__law_like (foldA [(dMeth false [(("Row", some "state"), ⟨["self"], F_Row_state, H_Row_state⟩)] "state" (dVar 14) []), (dVar 9)])) (dCall 2 F__law_like (foldA [(dMeth false [(("Row", some "state"), ⟨["self"], F_Row_state, H_Row_state⟩)] "state" (d2 ixD (dVar 12) (dCst (.int 0))) []), (dCall 3 F__law_state (foldA [(dVar 6), (dVar 7), (dVar 8)]))])))))) dPass)))))))))))))) := by rw [f0__law_part_two, z__law_part_two_0, z__law_part_two_1, z__law_part_two_2, z__law_part_two_3, z__law_part_two_4, z__law_part_two_5, z__law_part_two_6, z__law_part_two_8, z__law_part_two_9, z__law_part_two_10, z__law_part_two_11, z__law_part_two_12, z__law_part_two_13, z__law_part_two_14]
theorem s__law_part_two : TabS kw d__law_part_two := ⟨⟨rfl, rfl, rfl, by decide +kernel, rfl, by decide +kernel, by decide +kernel⟩, .inl rfl, fun _ _ _ _ _ _ us hl => match us, hl with | [_], _ => rfl, fun ks hk _ => (kb_no (by decide +kernel) hk).elim⟩
def d__law_is_int : DI := ⟨"_law_is_int", none, top 30, ["value"], ["value"], 0⟩
def t__law_is_int : List DI := d__law_is_int :: t__law_part_two
noncomputable def F__law_is_int : FV := d__law_is_int.F kw cst (lev t__law_part_two) (tabR kw cst t__law_part_two) false
noncomputable def H__law_is_int : FV := d__law_is_int.F kw cst (lev t__law_part_two) (tabR kw cst t__law_part_two) true
theorem f__law_is_int : F__law_is_int = dFn 1 1 (dRet (dAndE (dIsi .int (dVar 0)) (dNotE (dIsi .bool (dVar 0))))) := by kernel_rfl
theorem s__law_is_int : TabS kw d__law_is_int := ⟨⟨rfl, rfl, rfl, by decide +kernel, rfl, by decide +kernel, by decide +kernel⟩, .inl rfl, fun _ _ _ _ _ _ us hl => match us, hl with | [_], _ => rfl, fun ks hk _ => (kb_no (by decide +kernel) hk).elim⟩
def d__law_is_told : DI := ⟨"_law_is_told", none, top 31, ["value", "entry"], ["value"], 0⟩
def t__law_is_told : List DI := d__law_is_told :: t__law_is_int
noncomputable def F__law_is_told : FV := d__law_is_told.F kw cst (lev t__law_is_int) (tabR kw cst t__law_is_int) false
noncomputable def H__law_is_told : FV := d__law_is_told.F kw cst (lev t__law_is_int) (tabR kw cst t__law_is_int) true
theorem f__law_is_told : F__law_is_told = dFn 1 2 (dSeq (dIf (dTB (d2 (cmpD' .Is) (dVar 0) (dCst .non))) (dRet (dCst (.bl true))) dPass) (dSeq (dIf (dOrT (dNotT (dTr (dIsi .tuple (dVar 0)))) (dOrT (dTB (d2 (cmpD' .Lt) (dPrim (bltD .len) (foldA [(dVar 0)])) (dCst (.int 2)))) (dTB (d2 (cmpD' .NotEq) (dLc (dSeqIt (dFrz (dVar 0))) (.nm 1) (dNotT (dTr (dCall 1 F__law_is_int (foldA [(dVar 1)])))) (dFrz (dCst (.int 1))) [1]) (dLst (foldA [])))))) (dRet (dCst (.bl false))) dPass) (dRet (dAndE (d2 (cmpD' .GtE) (d2 ixD (dVar 0) (dCst (.int 0))) (dCst (.int 0))) (dChain .LtE .LtE (dCst (.int 0)) (d2 ixD (dVar 0) (d1 negD (dCst (.int 1)))) (dCst (.int 31))))))) := by kernel_rfl
theorem s__law_is_told : TabS kw d__law_is_told := ⟨⟨rfl, rfl, rfl, by decide +kernel, rfl, by decide +kernel, by decide +kernel⟩, .inl rfl, fun _ _ _ _ _ _ us hl => match us, hl with | [_], _ => rfl, fun ks hk _ => (kb_no (by decide +kernel) hk).elim⟩
def d__law_stands : DI := ⟨"_law_stands", none, top 32, ["falls", "at", "first", "last", "entry"], ["falls", "at", "first", "last"], 0⟩
def t__law_stands : List DI := d__law_stands :: t__law_is_told
noncomputable def F__law_stands : FV := d__law_stands.F kw cst (lev t__law_is_told) (tabR kw cst t__law_is_told) false
noncomputable def H__law_stands : FV := d__law_stands.F kw cst (lev t__law_is_told) (tabR kw cst t__law_is_told) true
theorem f__law_stands : F__law_stands = dFn 4 5 (dSeq (dSet 4 (d2 ixD (dVar 0) (dVar 1))) (dSeq (dIf (dOrT (dNotT (dTr (dIsi .tuple (dVar 4)))) (dOrT (dTB (d2 (cmpD' .NotEq) (dPrim (bltD .len) (foldA [(dVar 4)])) (dCst (.int 2)))) (dOrT (dNotT (dTr (dCall 1 F__law_is_int (foldA [(dFrz (d2 ixD (dVar 4) (dCst (.int 0))))])))) (dOrT (dTB (d2 (cmpD' .Lt) (d2 ixD (dVar 4) (dCst (.int 0))) (dCst (.int 0)))) (dNotT (dTr (dCall 1 F__law_is_told (foldA [(dFrz (d2 ixD (dVar 4) (dCst (.int 1))))])))))))) (dRet (dCst (.bl false))) dPass) (dSeq (dIf (dAndT (dTB (d2 (cmpD' .Eq) (d2 (binD .Add) (dVar 1) (dCst (.int 1))) (dPrim (bltD .len) (foldA [(dVar 0)])))) (dTB (d2 (cmpD' .NotEq) (d2 ixD (dVar 4) (dCst (.int 0))) (dVar 3)))) (dRet (dCst (.bl false))) dPass) (dSeq (dIf (dTB (d2 (cmpD' .Gt) (dVar 1) (dCst (.int 0)))) (dRet (dAndE (d2 (cmpD' .Gt) (d2 ixD (dVar 4) (dCst (.int 0))) (d2 ixD (d2 ixD (dVar 0) (d2 (binD .Sub) (dVar 1) (dCst (.int 1)))) (dCst (.int 0)))) (dCall 2 F__law_above (foldA [(dFrz (d2 ixD (dVar 4) (dCst (.int 1)))), (dFrz (d2 ixD (d2 ixD (dVar 0) (d2 (binD .Sub) (dVar 1) (dCst (.int 1)))) (dCst (.int 1))))])))) dPass) (dRet (dOrE (d2 (cmpD' .GtE) (d2 ixD (dVar 4) (dCst (.int 0))) (dPrim (bltD .max) (foldA [(dVar 2), (dCst (.int 1))]))) (dAndE (d2 (cmpD' .Eq) (d2 ixD (dVar 4) (dCst (.int 0))) (dCst (.int 0))) (dAndE (d2 (cmpD' .Eq) (dVar 2) (dCst (.int 0))) (d2 (cmpD' .IsNot) (d2 ixD (dVar 4) (dCst (.int 1))) (dCst .non)))))))))) := by kernel_rfl
theorem s__law_stands : TabS kw d__law_stands := ⟨⟨rfl, rfl, rfl, by decide +kernel, rfl, by decide +kernel, by decide +kernel⟩, .inl rfl, fun _ _ _ _ _ _ us hl => match us, hl with | [_, _, _, _], _ => rfl, fun ks hk _ => (kb_no (by decide +kernel) hk).elim⟩
def d__law_fault : DI := ⟨"_law_fault", none, top 33, ["value", "first", "last", "falls", "at"], ["value"], 0⟩
def t__law_fault : List DI := d__law_fault :: t__law_stands
noncomputable def F__law_fault : FV := d__law_fault.F kw cst (lev t__law_stands) (tabR kw cst t__law_stands) false
noncomputable def H__law_fault : FV := d__law_fault.F kw cst (lev t__law_stands) (tabR kw cst t__law_stands) true
theorem f__law_fault : F__law_fault = dFn 1 5 (dSeq (dIf (dOrT (dNotT (dTr (dIsi .tuple (dVar 0)))) (dOrT (dTB (d2 (cmpD' .NotEq) (dPrim (bltD .len) (foldA [(dVar 0)])) (dCst (.int 3)))) (dNotT (dTr (dIsi .tuple (d2 ixD (dVar 0) (dCst (.int 2)))))))) (dRet (d1 negD (dCst (.int 1)))) dPass) (dSeq (dUnp (.tp [1, 2, 3]) (dVar 0)) (dSeq (dIf (dOrT (dNotT (dTr (dCall 1 F__law_is_int (foldA [(dVar 1)])))) (dTB (d2 (cmpD' .Lt) (dVar 1) (dCst (.int 0))))) (dRet (dCst (.int 0))) dPass) (dSeq (dIf (dOrT (dNotT (dTr (dCall 1 F__law_is_int (foldA [(dVar 2)])))) (dOrT (dTB (d2 (cmpD' .Lt) (dVar 2) (dVar 1))) (dAndT (dTB (d2 (cmpD' .Gt) (dVar 2) (dCst (.int 0)))) (dTB (d2 (cmpD' .Eq) (dVar 3) (dTup (foldA []))))))) (dRet (dCst (.int 1))) dPass) (dSeq (dFor (dRng (foldA [(dPrim (bltD .len) (foldA [(dVar 3)]))])) (.nm 4) (dIf (dNotT (dTr (dCall 4 F__law_stands (foldA [(dVar 3), (dVar 4), (dVar 1), (dVar 2)])))) (dRet (d2 (binD .Add) (dCst (.int 2)) (dVar 4))) dPass)) (dRet (dCst .non))))))) := by kernel_rfl
theorem s__law_fault : TabS kw d__law_fault := ⟨⟨rfl, rfl, rfl, by decide +kernel, rfl, by decide +kernel, by decide +kernel⟩, .inl rfl, fun _ _ _ _ _ _ us hl => match us, hl with | [_], _ => rfl, fun ks hk _ => (kb_no (by decide +kernel) hk).elim⟩
def d__law_judged : DI := ⟨"_law_judged", none, top 34, ["value", "due", "wrong", "made"], ["value"], 0⟩
def t__law_judged : List DI := d__law_judged :: t__law_fault
noncomputable def F__law_judged : FV := d__law_judged.F kw cst (lev t__law_fault) (tabR kw cst t__law_fault) false
noncomputable def H__law_judged : FV := d__law_judged.F kw cst (lev t__law_fault) (tabR kw cst t__law_fault) true
theorem f__law_judged : F__law_judged = dFn 1 4 (dSeq (dSet 1 (dCall 1 F__law_fault (foldA [(dVar 0)]))) (dSeq (dTryA (dSet 3 (dCall 1 F_row_of (foldA [(dVar 0)]))) cst.exm "OwnError" 2 (fun a dx c => (dRet (dAndE (d2 (cmpD' .IsNot) (dVar 1) (dCst .non)) (dAndE (isxF cst.isx a dx c "BadRow" (dVar 2)) (dAndE (dNotE (isxF cst.isx a dx c "Refused" (dVar 2))) (dCall 2 H__law_like (foldA [(attF cst.exc a dx c "at" (dVar 2)), (dVar 1)])))))))) (dRet (dRO (dAndE (d2 (cmpD' .Is) (dVar 1) (dCst .non)) (dCall 2 F__law_like (foldA [(dMeth false [(("Row", some "state"), ⟨["self"], F_Row_state, H_Row_state⟩)] "state" (dVar 3) []), (dVar 0)]))))))) := by kernel_rfl
theorem s__law_judged : TabS kw d__law_judged := ⟨⟨rfl, rfl, rfl, by decide +kernel, rfl, by decide +kernel, by decide +kernel⟩, .inl rfl, fun _ _ _ _ _ _ us hl => match us, hl with | [_], _ => rfl, fun ks hk _ => (kb_no (by decide +kernel) hk).elim⟩
def d__law_drawn : DI := ⟨"_law_drawn", none, top 35, ["box", "row", "reports", "first", "last", "few", "number", "turn"], ["box"], 0⟩
def t__law_drawn : List DI := d__law_drawn :: t__law_judged
noncomputable def F__law_drawn : FV := d__law_drawn.F kw cst (lev t__law_judged) (tabR kw cst t__law_judged) false
noncomputable def H__law_drawn : FV := d__law_drawn.F kw cst (lev t__law_judged) (tabR kw cst t__law_judged) true
theorem f__law_drawn : F__law_drawn = dFn 1 8 (dSeq (dPar [1, 2, 3, 4, 5] (foldA [(dMake 1 F_Row___init__ "Row" (foldA [])), (dLst (foldA [])), (dCst (.int 0)), (dCst (.int 0)), (d2 (binD .Add) (dCst (.int 1)) (dCall 2 F__law_take (foldA [(dVar 0), (dCst (.int 7))])))])) (dSeq (dIf (dTB (d2 (cmpD' .Eq) (dCall 2 F__law_take (foldA [(dVar 0), (dCst (.int 3))])) (dCst (.int 0)))) (dSeq (dPar [3, 6] (foldA [(dCall 2 F__law_pick (foldA [(dVar 0), (dFrz (dLst (foldA [(dFrz (dCst (.int 0))), (dFrz (dCst (.int 1))), (dFrz (dCst (.int 5))), (dFrz (d2 (binD .Sub) (d2 (binD .Pow) (dCst (.int 10)) (dCst (.int 12))) (dCst (.int 400))))])))])), (dCall 2 F__law_number (foldA [(dVar 0), (dVar 5)]))])) (dSeq (dPar [1, 4] (foldA [(dCall 2 F_begun_row (foldA [(dVar 3), (dVar 6)])), (dVar 3)])) (dIf (dOrT (dTB (d2 (cmpD' .Gt) (dVar 3) (dCst (.int 0)))) (dTB (d2 (cmpD' .IsNot) (dVar 6) (dCst .non)))) (dSet 2 (dLst (foldA [(dFrz (dTup (foldA [(dFrz (dVar 3)), (dFrz (dVar 6))])))]))) dPass))) dPass) (dSeq (dFor (dRng (foldA [(dCall 2 F__law_pick (foldA [(dVar 0), (dFrz (dLst (foldA [(dFrz (dCst (.int 0))), (dFrz (dCst (.int 1))), (dFrz (dCst (.int 3))), (dFrz (dCst (.int 9))), (dFrz (dCst (.int 29)))])))]))])) (.nm 7) (dIf (dAndT (dTB (d2 (cmpD' .Eq) (dCall 2 F__law_take (foldA [(dVar 0), (dCst (.int 5))])) (dCst (.int 0)))) (dTB (d2 (cmpD' .Lt) (dVar 3) (dVar 4)))) (dSeq (dSet 3 (d2 (binD .Add) (d2 (binD .Add) (dVar 3) (dCst (.int 1))) (dCall 2 F__law_take (foldA [(dVar 0), (dFrz (d2 (binD .Sub) (dVar 4) (dVar 3)))])))) (dDrop (dMeth false [(("Row", some "acked"), ⟨["self", "k"], F_Row_acked, H_Row_acked⟩)] "acked" (dVar 1) [(dVar 3)]))) (dSeq (dPar [4, 6] (foldA [(d2 (binD .Add) (d2 (binD .Add) (dVar 4) (dCst (.int 1))) (d2 (binD .Mult) (dCall 2 F__law_take (foldA [(dVar 0), (dCst (.int 2))])) (dCall 2 F__law_take (foldA [(dVar 0), (dCst (.int 9))])))), (dCall 2 F__law_number (foldA [(dVar 0), (dVar 5)]))])) (dSeq (dDrop (dAppend 2 (dFrz (dTup (foldA [(dFrz (dVar 4)), (dFrz (dVar 6))]))))) (dDrop (dMeth false [(("Row", some "told"), ⟨["self", "serial", "number"], F_Row_told, H_Row_told⟩)] "told" (dVar 1) [(dVar 4), (dVar 6)])))))) (dRet (dTup (foldA [(dFrz (dVar 1)), (dFrz (dVar 2)), (dFrz (dVar 3)), (dFrz (dVar 4))])))))) := by kernel_rfl
theorem s__law_drawn : TabS kw d__law_drawn := ⟨⟨rfl, rfl, rfl, by decide +kernel, rfl, by decide +kernel, by decide +kernel⟩, .inl rfl, fun _ _ _ _ _ _ us hl => match us, hl with | [_], _ => rfl, fun ks hk _ => (kb_no (by decide +kernel) hk).elim⟩
def d__law_spoilt : DI := ⟨"_law_spoilt", none, top 36, ["box", "state", "first", "last", "falls", "at", "serial", "number", "ahead", "others"], ["box", "state"], 0⟩
def t__law_spoilt : List DI := d__law_spoilt :: t__law_drawn
noncomputable def F__law_spoilt : FV := d__law_spoilt.F kw cst (lev t__law_drawn) (tabR kw cst t__law_drawn) false
noncomputable def H__law_spoilt : FV := d__law_spoilt.F kw cst (lev t__law_drawn) (tabR kw cst t__law_drawn) true
theorem f__law_spoilt : F__law_spoilt = dFn 2 10 (dSeq (dUnp (.tp [2, 3, 4]) (dVar 1)) (dSeq (dSet 5 (dCall 2 F__law_take (foldA [(dVar 0), (dPrim (bltD .len) (foldA [(dVar 4)]))]))) (dSeq (dUnp (.tp [6, 7]) (d2 ixD (dVar 4) (dVar 5))) (dSeq (dSet 8 (dIfE (dTB (d2 (cmpD' .Gt) (dVar 5) (dCst (.int 0)))) (d2 ixD (dVar 4) (d2 (binD .Sub) (dVar 5) (dCst (.int 1)))) (dTup (foldA [(dFrz (dCst (.int 0))), (dFrz (dTup (foldA [(dFrz (dCst (.int 0))), (dFrz (dCst (.int 0)))])))])))) (dSeq (dSet 9 (dLst (foldA [(dFrz (dTup (foldA [(dFrz (d2 (binD .Sub) (dVar 6) (dCst (.int 1)))), (dFrz (dVar 7))]))), (dFrz (dTup (foldA [(dFrz (d2 (binD .Add) (dVar 6) (dCst (.int 1)))), (dFrz (dVar 7))]))), (dFrz (dTup (foldA [(dFrz (dVar 2)), (dFrz (dVar 7))]))), (dFrz (dTup (foldA [(dFrz (d2 (binD .Sub) (dVar 2) (dCst (.int 1)))), (dFrz (dVar 7))]))), (dFrz (dTup (foldA [(dFrz (dCst (.int 0))), (dFrz (dVar 7))]))), (dFrz (dTup (foldA [(dFrz (d1 negD (dCst (.int 1)))), (dFrz (dVar 7))]))), (dFrz (dTup (foldA [(dFrz (dCst (.bl true))), (dFrz (dVar 7))])))]))) (dSeq (dSet 9 (d2 (binD .Add) (dVar 9) (dLst (foldA [(dFrz (dTup (foldA [(dFrz (dVar 6)), (dFrz (d2 ixD (dVar 8) (dCst (.int 1))))]))), (dFrz (dTup (foldA [(dFrz (dVar 6)), (dFrz (dCst .non))]))), (dFrz (dTup (foldA [(dFrz (dVar 6)), (dFrz (dTup (foldA [(dFrz (dCst (.int 0))), (dFrz (dCst (.int 0)))])))]))), (dFrz (dTup (foldA [(dFrz (dVar 6)), (dFrz (dTup (foldA [(dFrz (dCst (.int 5)))])))]))), (dFrz (dTup (foldA [(dFrz (dVar 6)), (dFrz (dLst (foldA [(dFrz (dCst (.int 5))), (dFrz (dCst (.int 3)))])))]))), (dFrz (dTup (foldA [(dFrz (dVar 6)), (dFrz (dTup (foldA [(dFrz (dCst (.int 5))), (dFrz (dCst (.int 32)))])))]))), (dFrz (dTup (foldA [(dFrz (dVar 6)), (dFrz (dTup (foldA [(dFrz (d1 negD (dCst (.int 1)))), (dFrz (dCst (.int 3)))])))])))])))) (dSeq (dSet 9 (d2 (binD .Add) (dVar 9) (dLst (foldA [(dFrz (dTup (foldA [(dFrz (dVar 6)), (dFrz (dTup (foldA [(dFrz (dCst (.bl true))), (dFrz (dCst (.int 3)))])))]))), (dFrz (dTup (foldA [(dFrz (dVar 6)), (dFrz (dTup (foldA [(dFrz (dCst (.int 5))), (dFrz (dCst (.int 3))), (dFrz (dCst (.str "a")))])))]))), (dFrz (dTup (foldA [(dFrz (d2 ixD (dVar 8) (dCst (.int 0)))), (dFrz (dVar 7))]))), (dFrz (dTup (foldA [(dFrz (dVar 6))]))), (dFrz (dTup (foldA [(dFrz (dVar 6)), (dFrz (dVar 7)), (dFrz (dVar 7))]))), (dFrz (dLst (foldA [(dFrz (dVar 6)), (dFrz (dVar 7))])))])))) (dSeq (dSet 9 (d2 (binD .Add) (dVar 9) (dLst (foldA [(dFrz (dVar 6)), (dFrz (dTup (foldA [(dFrz (dCst .non)), (dFrz (dVar 7))]))), (dFrz (dTup (foldA [(dFrz (dVar 6)), (dFrz (dCst (.int 0)))]))), (dFrz (dTup (foldA [(dFrz (dVar 6)), (dFrz (dTup (foldA [])))]))), (dFrz (dTup (foldA [(dFrz (dVar 6)), (dFrz (dTup (foldA [(dFrz (dCst (.int 5))), (dFrz (dCst (.int 3))), (dFrz (d1 negD (dCst (.int 1))))])))]))), (dFrz (dTup (foldA [(dFrz (dPrim (bltD .str) (foldA [(dVar 6)]))), (dFrz (dVar 7))]))), (dFrz (dTup (foldA [(dFrz (dVar 6)), (dFrz (dCst (.bl false)))])))])))) (dRet (dTup (foldA [(dFrz (dVar 2)), (dFrz (dVar 3)), (dFrz (d2 (binD .Add) (d2 (binD .Add) (dSl (dVar 4) dNoP (dPart (dVar 5))) (dTup (foldA [(dFrz (dCall 2 F__law_pick (foldA [(dVar 0), (dVar 9)])))]))) (dSl (dVar 4) (dPart (d2 (binD .Add) (dVar 5) (dCst (.int 1)))) dNoP)))]))))))))))) := by kernel_rfl
theorem s__law_spoilt : TabS kw d__law_spoilt := ⟨⟨rfl, rfl, rfl, by decide +kernel, rfl, by decide +kernel, by decide +kernel⟩, .inl rfl, fun _ _ _ _ _ _ us hl => match us, hl with | [_, _], _ => rfl, fun ks hk _ => (kb_no (by decide +kernel) hk).elim⟩
def d__law_part_one : DI := ⟨"_law_part_one", none, top 37, ["script", "box", "fixed", "value", "case", "row", "reports", "first", "last", "state", "k", "falls", "turn", "others", "by", "one", "serial", "number", "fall"], ["script"], 0⟩
def t__law_part_one : List DI := d__law_part_one :: t__law_spoilt
noncomputable def F__law_part_one : FV := d__law_part_one.F kw cst (lev t__law_spoilt) (tabR kw cst t__law_spoilt) false
noncomputable def H__law_part_one : FV := d__law_part_one.F kw cst (lev t__law_spoilt) (tabR kw cst t__law_spoilt) true
theorem f__law_part_one : F__law_part_one = dFn 1 19 (dSeq (dSet 1 (dCall 2 F__law_box (foldA [(dVar 0), (dCst (.int 0))]))) (dSeq (dSet 2 (dLst (foldA [(dFrz (dCst .non)), (dFrz (dTup (foldA []))), (dFrz (dLst (foldA [(dFrz (dCst (.int 0))), (dFrz (dCst (.int 0))), (dFrz (dTup (foldA [])))]))), (dFrz (dTup (foldA [(dFrz (dCst (.int 0))), (dFrz (dCst (.int 0)))]))), (dFrz (dTup (foldA [(dFrz (dCst (.int 0))), (dFrz (dCst (.int 0))), (dFrz (dTup (foldA []))), (dFrz (dTup (foldA [])))]))), (dFrz (dTup (foldA [(dFrz (dCst (.int 0))), (dFrz (dCst (.int 0))), (dFrz (dLst (foldA [])))]))), (dFrz (dTup (foldA [(dFrz (dCst (.int 0))), (dFrz (dCst (.int 0))), (dFrz (dCst .non))]))), (dFrz (dTup (foldA [(dFrz (dCst (.int 0))), (dFrz (dCst (.int 1))), (dFrz (dTup (foldA [])))]))), (dFrz (dTup (foldA [(dFrz (dCst (.int 0))), (dFrz (dCst (.int 0))), (dFrz (dTup (foldA [(dFrz (dTup (foldA [(dFrz (dCst (.int 0))), (dFrz (dCst .non))])))])))]))), (dFrz (dTup (foldA [(dFrz (dCst (.int 0))), (dFrz (dCst (.int 0))), (dFrz (dTup (foldA [(dFrz (dTup (foldA [(dFrz (dCst (.int 0))), (dFrz (dTup (foldA [(dFrz (dCst (.int 4))), (dFrz (dCst (.int 2)))])))])))])))])))]))) (dSeq (dFor (dSeqIt (dFrz (d2 (binD .Add) (dVar 2) (dLst (foldA [(dFrz (dTup (foldA [(dFrz (dCst (.int 1))), (dFrz (dCst (.int 0))), (dFrz (dTup (foldA [])))]))), (dFrz (dTup (foldA [(dFrz (dCst (.int 0))), (dFrz (dCst (.int 0))), (dFrz (dTup (foldA [])))]))), (dFrz (dTup (foldA [(dFrz (dCst (.int 0))), (dFrz (dCst (.bl true))), (dFrz (dTup (foldA [(dFrz (dTup (foldA [(dFrz (dCst (.int 1))), (dFrz (dCst .non))])))])))]))), (dFrz (dTup (foldA [(dFrz (dCst (.bl false))), (dFrz (dCst (.int 0))), (dFrz (dTup (foldA [])))]))), (dFrz (dCst (.str "000"))), (dFrz (dCst (.int 0))), (dFrz (dTup (foldA [(dFrz (dCst (.int 0))), (dFrz (dCst (.int 0))), (dFrz (dTup (foldA [(dFrz (dTup (foldA [(dFrz (dCst (.int 0))), (dFrz (dTup (foldA [(dFrz (dCst (.int 4))), (dFrz (dCst (.int 2)))])))]))), (dFrz (dTup (foldA [(dFrz (dCst (.int 0))), (dFrz (dTup (foldA [(dFrz (dCst (.int 5))), (dFrz (dCst (.int 2)))])))])))])))])))]))))) (.nm 3) (dIf (dNotT (dTr (dCall 1 F__law_judged (foldA [(dVar 3)])))) (dRet (dCst (.bl false))) dPass)) (dSeq (dFor (dRng (foldA [(dCst (.int 4))])) (.nm 4) (dSeq (dSet 1 (dCall 2 F__law_box (foldA [(dVar 0), (dFrz (d2 (binD .Add) (dCst (.int 1)) (dVar 4)))]))) (dSeq (dUnp (.tp [5, 6, 7, 8]) (dCall 1 F__law_drawn (foldA [(dVar 1)]))) (dSeq (dSet 9 (dCall 3 F__law_state (foldA [(dVar 6), (dVar 7), (dVar 8)]))) (dSeq (dIf (dROT (dOrT (dNotT (dTr (dCall 2 F__law_like (foldA [(dMeth false [(("Row", some "state"), ⟨["self"], F_Row_state, H_Row_state⟩)] "state" (dVar 5) []), (dVar 9)])))) (dNotT (dTr (dCall 1 F__law_judged (foldA [(dVar 9)])))))) (dRet (dCst (.bl false))) dPass) (dSeq (dIf (dTB (d2 (cmpD' .Gt) (dVar 8) (dCst (.int 0)))) (dFor (dSeqIt (dFrz (d2 (binD .Add) (dLst (foldA [(dFrz (dPrim (bltD .max) (foldA [(dVar 7), (dCst (.int 1))])))])) (dLc (dSeqIt (dFrz (dVar 6))) (.tp [16, 17]) (dTB (d2 (cmpD' .GtE) (dVar 16) (dPrim (bltD .max) (foldA [(dVar 7), (dCst (.int 1))])))) (dFrz (dVar 16)) [16, 17])))) (.nm 10) (dIf (dROT (dNotT (dTr (dCall 2 F__law_like (foldA [(dMeth false [(("Row", some "since"), ⟨["self", "k"], F_Row_since, H_Row_since⟩)] "since" (dVar 5) [(dVar 10)]), (dFrz (d2 ixD (dLc (dSeqIt (dFrz (d2 ixD (dVar 9) (dCst (.int 2))))) (.nm 18) (dTB (d2 (cmpD' .GtE) (d2 ixD (dVar 18) (dCst (.int 0))) (dVar 10))) (dFrz (d2 ixD (dVar 18) (dCst (.int 1)))) [18]) (dCst (.int 0))))]))))) (dRet (dCst (.bl false))) dPass)) dPass) (dSeq (dSet 11 (d2 ixD (dVar 9) (dCst (.int 2)))) (dSeq (dFor (dRng (foldA [(dIfE (dTB (d2 (cmpD' .NotEq) (dVar 11) (dTup (foldA [])))) (dCst (.int 10)) (dCst (.int 0)))])) (.nm 12) (dIf (dNotT (dTr (dCall 1 F__law_judged (foldA [(dCall 2 F__law_spoilt (foldA [(dVar 1), (dVar 9)]))])))) (dRet (dCst (.bl false))) dPass)) (dSeq (dSet 13 (dRO (d2 (binD .Add) (dLc (dSeqIt (dFrz (dTup (foldA [(dFrz (d1 negD (dCst (.int 1)))), (dFrz (dCst (.int 1)))])))) (.nm 14) dYes (dFrz (dTup (foldA [(dFrz (d2 (binD .Add) (dVar 7) (dVar 14))), (dFrz (dVar 8)), (dFrz (dVar 11))]))) [14]) (dLc (dSeqIt (dFrz (dTup (foldA [(dFrz (dCst (.int 0))), (dFrz (d1 negD (dCst (.int 1)))), (dFrz (dVar 8)), (dFrz (d2 (binD .Add) (dVar 8) (dCst (.int 1)))), (dFrz (dPrim (bltD .str) (foldA [(dVar 7)]))), (dFrz (dCst (.bl true))), (dFrz (dCst .non))])))) (.nm 15) dYes (dFrz (dTup (foldA [(dFrz (dVar 15)), (dFrz (dVar 8)), (dFrz (dVar 11))]))) [15])))) (dSeq (dSet 13 (dRO (d2 (binD .Add) (dVar 13) (dLc (dSeqIt (dFrz (dTup (foldA [(dFrz (d2 (binD .Sub) (dVar 8) (dCst (.int 1)))), (dFrz (d2 (binD .Add) (dVar 8) (dCst (.int 1)))), (dFrz (dCst .non)), (dFrz (dCst (.bl false))), (dFrz (dPrim (bltD .str) (foldA [(dVar 8)])))])))) (.nm 15) dYes (dFrz (dTup (foldA [(dFrz (dVar 7)), (dFrz (dVar 15)), (dFrz (dVar 11))]))) [15])))) (dFor (dSeqIt (dFrz (d2 (binD .Add) (dVar 13) (dLc (dSeqIt (dFrz (dTup (foldA [(dFrz (dSl (dVar 11) (dPart (dCst (.int 1))) dNoP)), (dFrz (dSl (dVar 11) dNoP (dPart (d1 negD (dCst (.int 1)))))), (dFrz (d2 (binD .Add) (dVar 11) (dVar 11))), (dFrz (dPrim (bltD .list) (foldA [(dVar 11)]))), (dFrz (dTup (foldA []))), (dFrz (dCst .non))])))) (.nm 15) dYes (dFrz (dTup (foldA [(dFrz (dVar 7)), (dFrz (dVar 8)), (dFrz (dVar 15))]))) [15])))) (.nm 3) (dIf (dNotT (dTr (dCall 1 F__law_judged (foldA [(dVar 3)])))) (dRet (dCst (.bl false))) dPass)))))))))))) (dRet (dCst (.bl true))))))) := by kernel_rfl
theorem s__law_part_one : TabS kw d__law_part_one := ⟨⟨rfl, rfl, rfl, by decide +kernel, rfl, by decide +kernel, by decide +kernel⟩, .inl rfl, fun _ _ _ _ _ _ us hl => match us, hl with | [_], _ => rfl, fun ks hk _ => (kb_no (by decide +kernel) hk).elim⟩
def d_law : DI := ⟨"law", none, top 49, ["script"], ["script"], 0⟩
def t_law : List DI := d_law :: t__law_part_one
noncomputable def F_law : FV := d_law.F kw cst (lev t__law_part_one) (tabR kw cst t__law_part_one) false
noncomputable def H_law : FV := d_law.F kw cst (lev t__law_part_one) (tabR kw cst t__law_part_one) true
theorem f_law : F_law = dFn 1 1 (dRet (dAndE (dCall 1 F__law_part_one (foldA [(dFrz (dSlSt (dVar 0) (dPart (dCst (.int 0))) dNoP (dPart (dCst (.int 2)))))])) (dCall 1 F__law_part_two (foldA [(dFrz (dSlSt (dVar 0) (dPart (dCst (.int 1))) dNoP (dPart (dCst (.int 2)))))])))) := by kernel_rfl
theorem s_law : TabS kw d_law := ⟨⟨rfl, rfl, rfl, by decide +kernel, rfl, by decide +kernel, by decide +kernel⟩, .inl rfl, fun _ _ _ _ _ _ us hl => match us, hl with | [_], _ => rfl, fun ks hk _ => (kb_no (by decide +kernel) hk).elim⟩
theorem allS : AllS kw t_law := ⟨s_law, s__law_part_one, s__law_spoilt, s__law_drawn, s__law_judged, s__law_fault, s__law_stands, s__law_is_told, s__law_is_int, s__law_part_two, s__law_answers, s_Row_newest, s__law_whole, s__law_least, s__law_apart, s_Row_least, s__law_since, s_Row_since, s_Row_state, s_Row_copied, s_row_of, s_is_step, s_may_be_first, s_is_told, s_check_number, s_is_name, s_is_from, s_is_int, s_is_tuple, s__law_near, s__law_state, s__law_above, s__law_drawn_two, s__law_due, s__law_take_in, s__law_like, s_Row_acked, s_Row_steps_from, s_Row_told, s_is_below, s__law_deed, s_begun_row, s_made_row, s__law_number, s__law_pick, s_Row___init__, s__law_take, s__law_box, trivial⟩
abbrev R : PySem.W.OpenRow := PySem.W.OpenLaw.row PySem.Challenge.rw_wayskept_k06_whole_states_of_rows_go_on
theorem exsX : ∀ d ∈ exs, Dx.XS PySem.Challenge.pw_wayskept_k06_whole_states_of_rows_go_on d := by
  intro d h
  simp only [exs, List.mem_cons, List.not_mem_nil, or_false] at h
  rcases h with rfl | rfl | rfl
  · exact xs_BadNumber
  · exact xs_BadRow
  · exact xs_Refused
abbrev hk : PySem.W.Hook := Dx.hookX 5 (faOf t_law cst) ((t_law).map DI.dd) exs cst.isx PySem.Challenge.pw_wayskept_k06_whole_states_of_rows_go_on.main.file
def ob (s : PySem.W.SharedT) : Dx.AlX := Dx.obsXG 5 (faOf t_law cst) ((t_law).map DI.dd) exs cst.isx PySem.Challenge.pw_wayskept_k06_whole_states_of_rows_go_on.main.file (HandSHeadRun.getT s)
theorem ob_eq (s : PySem.W.SharedT) : ob s = hk.obs s.abs := Dx.obsXG_eq (HandSHeadRun.getT_eq s)
theorem run (w : World) : HandSHeadRun.RunEq R (PySem.W.view R.prog [49]) hk ob 4000 ((["OwnError", "BadNumber", "BadRow", "Refused", "is_int", "is_from", "is_name", "is_tuple", "check_number", "is_below", "is_told", "Row", "made_row", "begun_row", "may_be_first", "is_step", "row_of", "_law_box", "_law_take", "_law_pick", "_law_like", "_law_number", "_law_above", "_law_state", "_law_is_int", "_law_is_told", "_law_stands", "_law_fault", "_law_judged", "_law_drawn"] : List PySem.Str) ++ (["_law_spoilt", "_law_part_one", "_law_least", "_law_deed", "_law_take_in", "_law_due", "_law_since", "_law_answers", "_law_whole", "_law_drawn_two", "_law_near", "_law_apart", "_law_part_two", "MOST_NAME"] : List PySem.Str)) w := by
  intro os
  kernel_rfl
end K06

set_option Elab.async false
set_option linter.all false
set_option maxRecDepth 100000
set_option maxHeartbeats 4000000
/-! Dn15: the combinators computed: rules for simp. -/
namespace Dn
open PySem L2

/-! ### values -/
@[simp] theorem gz_zero {α : Type} {a : α} {l : List α} : (a :: l)[0]? = some a := rfl
@[simp] theorem gz_succ {α : Type} {a : α} {l : List α} {n : Nat} : (a :: l)[n + 1]? = l[n]? := rfl
@[simp] theorem pu_non : D.pure .non = true := rfl
@[simp] theorem pu_bl {b} : D.pure (.bl b) = true := rfl
@[simp] theorem pu_int {i} : D.pure (.int i) = true := rfl
@[simp] theorem pu_str {s} : D.pure (.str s) = true := rfl
@[simp] theorem pu_tup {ds} : D.pure (.tup ds) = true := rfl
@[simp] theorem pu_lst {ds} : D.pure (.lst ds) = true := rfl
@[simp] theorem pu_kl {ds} : D.pure (.kl ds) = true := rfl
@[simp] theorem pu_ml {ds} : D.pure (.ml ds) = false := rfl
@[simp] theorem pu_ins {c ns ds} : D.pure (.ins c ns ds) = false := rfl
@[simp] theorem pu_mt {ds} : D.pure (.mt ds) = false := rfl
@[simp] theorem pu_rf {a} : D.pure (.rf a) = true := rfl
@[simp] theorem ap_nil : allPure [] = true := rfl
@[simp] theorem ap_cons {d ds} : allPure (d :: ds) = (d.pure && allPure ds) := rfl
@[simp] theorem sz_line {n : Nat} (h : n ≤ 16777216) : (n ≤ sizeLine) = True := eq_true h
@[simp] theorem sz_lt {n : Nat} (h : n < 16777216) : (n < sizeLine) = True := eq_true h
def rdV (i : Nat) (o : Option (Option D)) (ss : Sl) : R Vx := match o with
  | some (some d) => if d.pure = true then .ok (.val d) ss else .ok (.plc i) ss
  | _ => .err
@[simp] theorem ev_var {i : Nat} {ss : Sl} : dVar i ss = rdV i ss[i]? ss := rfl
@[simp] theorem rdV_some {i : Nat} {d : D} {ss : Sl} : rdV i (some (some d)) ss = if d.pure = true then .ok (.val d) ss else .ok (.plc i) ss := rfl
@[simp] theorem rdV_none {i : Nat} {ss : Sl} : rdV i (some none) ss = .err := rfl
@[simp] theorem ev_cst {d : D} {ss : Sl} : dCst d ss = .ok (.val d) ss := rfl
def atV (o : Option (Option D)) : Option D := match o with
  | some (some d) => some d
  | _ => none
@[simp] theorem get_val' {d : D} {ss : Sl} : (Vx.val d).get ss = some d := rfl
@[simp] theorem get_plc' {i : Nat} {ss : Sl} : (Vx.plc i).get ss = atV ss[i]? := rfl
@[simp] theorem atV_some {d : D} : atV (some (some d)) = some d := rfl
def o2 (op : D → D → Option D) (a b : Option D) (ss : Sl) : R Vx := match a, b with
  | some a, some b => ofD (op a b) ss
  | _, _ => .err
@[simp] theorem op2_ap {op : D → D → Option D} {x y : Vx} {ss : Sl} : op2 op x y ss = o2 op (x.get ss) (y.get ss) ss := by
  unfold op2 get2 o2
  cases x.get ss <;> cases y.get ss <;> rfl
@[simp] theorem o2_some {op : D → D → Option D} {a b : D} {ss : Sl} : o2 op (some a) (some b) ss = ofD (op a b) ss := rfl
@[simp] theorem ofD_some {d : D} {ss : Sl} : ofD (some d) ss = .ok (.val d) ss := rfl
@[simp] theorem ev_d2 {op : D → D → Option D} {a b : EV} {ss : Sl} : d2 op a b ss = (a ss).bind fun x s1 => (b s1).bind fun y s2 => op2 op x y s2 := rfl
def o1 (op : D → Option D) (a : Option D) (ss : Sl) : R Vx := match a with
  | some a => ofD (op a) ss
  | none => .err
@[simp] theorem ev_d1 {op : D → Option D} {a : EV} {ss : Sl} : d1 op a ss = (a ss).bind fun x s1 => o1 op (x.get s1) s1 := rfl
@[simp] theorem o1_some {op : D → Option D} {a : D} {ss : Sl} : o1 op (some a) ss = ofD (op a) ss := rfl
@[simp] theorem neg_int {i : Int} : negD (.int i) = some (.int (-i)) := rfl
/-! ### arithmetic -/
@[simp] theorem bin_add {i j : Int} : binD .Add (.int i) (.int j) = some (.int (i + j)) := rfl
@[simp] theorem bin_sub {i j : Int} : binD .Sub (.int i) (.int j) = some (.int (i - j)) := rfl
theorem bin_mul {i j : Int} (h : (-18446744073709551616 < i ∧ i < 18446744073709551616) ∨ (-18446744073709551616 < j ∧ j < 18446744073709551616)) : binD .Mult (.int i) (.int j) = some (.int (i * j)) := by
  show (if (bigD i || bigD j) = true then _ else _) = _
  rw [if_pos]
  unfold bigD
  simp only [Bool.or_eq_true, Bool.and_eq_true, decide_eq_true_eq]
  exact h
@[simp] theorem bin_mulI {i j : Int} (h : -18446744073709551616 < i ∧ i < 18446744073709551616) : binD .Mult (.int i) (.int j) = some (.int (i * j)) := bin_mul (.inl h)
@[simp high] theorem bin_mulJ {i j : Int} (h : -18446744073709551616 < j ∧ j < 18446744073709551616) : binD .Mult (.int i) (.int j) = some (.int (i * j)) := bin_mul (.inr h)
@[simp] theorem bin_div {i j : Int} (h : 0 < j ∧ j < 18446744073709551616) : binD .FloorDiv (.int i) (.int j) = some (.int (i / j)) := if_pos h
@[simp] theorem bin_mod {i j : Int} (h : 0 < j) : binD .Mod (.int i) (.int j) = some (.int (i % j)) := if_pos h
theorem bin_pow {i j : Int} (h : 0 ≤ j ∧ j ≤ 1000000 ∧ i.natAbs < 2 ^ 64) : binD .Pow (.int i) (.int j) = some (.int (i ^ j.toNat)) := if_pos h
@[simp] theorem bin_p18 : binD .Pow (.int 10) (.int 18) = some (.int 1000000000000000000) := by rw [bin_pow (by decide)]; rfl
@[simp] theorem bin_p9 : binD .Pow (.int 10) (.int 9) = some (.int 1000000000) := by rw [bin_pow (by decide)]; rfl
/-! ### comparisons, truth -/
@[simp] theorem cm_lt {i j : Int} : cmpD' .Lt (.int i) (.int j) = some (.bl (decide (i < j))) := rfl
@[simp] theorem cm_le {i j : Int} : cmpD' .LtE (.int i) (.int j) = some (.bl (decide (i ≤ j))) := rfl
@[simp] theorem cm_gt {i j : Int} : cmpD' .Gt (.int i) (.int j) = some (.bl (decide (j < i))) := rfl
@[simp] theorem cm_ge {i j : Int} : cmpD' .GtE (.int i) (.int j) = some (.bl (decide (j ≤ i))) := rfl
@[simp] theorem cm_eq {i j : Int} : cmpD' .Eq (.int i) (.int j) = some (.bl (decide (i = j))) := rfl
@[simp] theorem cm_ne {i j : Int} : cmpD' .NotEq (.int i) (.int j) = some (.bl (!decide (i = j))) := rfl
@[simp] theorem cm_eqs {i j : Str} : cmpD' .Eq (.str i) (.str j) = some (.bl (decide (i = j))) := rfl
@[simp] theorem cm_nes {i j : Str} : cmpD' .NotEq (.str i) (.str j) = some (.bl (!decide (i = j))) := rfl
@[simp] theorem cm_eqb {i j : Bool} : cmpD' .Eq (.bl i) (.bl j) = some (.bl (decide (i = j))) := rfl
@[simp] theorem asB_bl {b : Bool} {ss : Sl} : asB (.val (.bl b)) ss = .ok b ss := rfl
@[simp] theorem ev_tb {a : EV} {ss : Sl} : dTB a ss = (a ss).bind fun x s1 => asB x s1 := rfl
def aT (o : Option D) (ss : Sl) : R Bool := match o with
  | some d => match truthD d with
    | some b => .ok b ss
    | none => .err
  | none => .err
@[simp] theorem asT_ap {x : Vx} {ss : Sl} : asT x ss = aT (x.get ss) ss := rfl
@[simp] theorem aT_bl {b : Bool} {ss : Sl} : aT (some (.bl b)) ss = .ok b ss := rfl
@[simp] theorem aT_int {i : Int} {ss : Sl} : aT (some (.int i)) ss = .ok (i != 0) ss := rfl
@[simp] theorem ev_tr {a : EV} {ss : Sl} : dTr a ss = (a ss).bind fun x s1 => asT x s1 := rfl
@[simp] theorem ev_notT {t : TV} {ss : Sl} : dNotT t ss = (t ss).bind fun b s1 => .ok (!b) s1 := rfl
@[simp] theorem ev_andT {t u : TV} {ss : Sl} : dAndT t u ss = (t ss).bind fun b s1 => if b = true then u s1 else .ok false s1 := rfl
@[simp] theorem ev_orT {t u : TV} {ss : Sl} : dOrT t u ss = (t ss).bind fun b s1 => if b = true then .ok true s1 else u s1 := rfl
@[simp] theorem ev_andE {a b : EV} {ss : Sl} : dAndE a b ss = (a ss).bind fun x s1 => (asB x s1).bind fun c s2 => if c = true then b s2 else .ok (.val (.bl false)) s2 := rfl
@[simp] theorem ev_orE {a b : EV} {ss : Sl} : dOrE a b ss = (a ss).bind fun x s1 => (asB x s1).bind fun c s2 => if c = true then .ok (.val (.bl true)) s2 else b s2 := rfl
@[simp] theorem ev_notE {a : EV} {ss : Sl} : dNotE a ss = (a ss).bind fun x s1 => (asB x s1).bind fun c s2 => .ok (.val (.bl (!c))) s2 := rfl
@[simp] theorem ev_ifE {t : TV} {a b : EV} {ss : Sl} : dIfE t a b ss = (t ss).bind fun c s1 => if c = true then a s1 else b s1 := rfl
@[simp] theorem ite_okI {c : Prop} [Decidable c] {x y : Int} {s : Sl} : (if c then R.ok (Vx.val (.int x)) s else R.ok (Vx.val (.int y)) s) = R.ok (Vx.val (.int (if c then x else y))) s := by split <;> rfl
/-! ### rows of values -/
@[simp] theorem ev_foldN {ss : Sl} : foldA [] ss = .ok [] ss := rfl
@[simp] theorem ev_foldC {f : EV} {fs : List EV} {ss : Sl} : foldA (f :: fs) ss = (f ss).bind fun x s1 => (foldA fs s1).bind fun xs s2 => .ok (x :: xs) s2 := rfl
@[simp] theorem frz_plc {i : Nat} : frz (.plc i) = .plc i := rfl
@[simp] theorem frz_ml {ds : List D} : frz (.val (.ml ds)) = if allPure ds = true then .val (.lst ds) else .val (.ml ds) := rfl
@[simp] theorem frz_non : frz (.val .non) = .val .non := rfl
@[simp] theorem frz_bl {b} : frz (.val (.bl b)) = .val (.bl b) := rfl
@[simp] theorem frz_int {b} : frz (.val (.int b)) = .val (.int b) := rfl
@[simp] theorem frz_str {b} : frz (.val (.str b)) = .val (.str b) := rfl
@[simp] theorem frz_tup {b} : frz (.val (.tup b)) = .val (.tup b) := rfl
@[simp] theorem frz_lst {b} : frz (.val (.lst b)) = .val (.lst b) := rfl
@[simp] theorem frz_kl {b} : frz (.val (.kl b)) = .val (.kl b) := rfl
@[simp] theorem ev_frz {a : EV} {ss : Sl} : dFrz a ss = (a ss).bind fun x s1 => .ok (frz x) s1 := rfl
@[simp] theorem pures_nil : pures [] = some [] := rfl
@[simp] theorem pures_cons {d : D} {r : List Vx} : pures (.val d :: r) = if d.pure = true then (pures r).map (d :: ·) else none := by
  show (if d.pure = true then (match pures r with | some ds => some (d :: ds) | none => none) else none) = _
  cases pures r <;> rfl
@[simp] theorem pures_plc {i : Nat} {r : List Vx} : pures (.plc i :: r) = none := rfl
def mT (o : Option (List D)) (xs : List Vx) (ss : Sl) : R Vx := match o with
  | some ds => if ds.length ≤ sizeLine then .ok (.val (.tup ds)) ss else .err
  | none => mkTupO (takeL xs ss)
def mL (o : Option (List D)) (xs : List Vx) (ss : Sl) : R Vx := match o with
  | some ds => if ds.length ≤ sizeLine then .ok (.val (.ml ds)) ss else .err
  | none => mkLstO (takeL xs ss)
@[simp] theorem ev_tup {t : AV} {ss : Sl} : dTup t ss = (t ss).bind fun xs s1 => mT (pures xs) xs s1 := rfl
@[simp] theorem ev_lst {t : AV} {ss : Sl} : dLst t ss = (t ss).bind fun xs s1 => mL (pures xs) xs s1 := rfl
@[simp] theorem mT_some {ds : List D} {xs : List Vx} {ss : Sl} : mT (some ds) xs ss = if ds.length ≤ sizeLine then .ok (.val (.tup ds)) ss else .err := rfl
@[simp] theorem mL_some {ds : List D} {xs : List Vx} {ss : Sl} : mL (some ds) xs ss = if ds.length ≤ sizeLine then .ok (.val (.ml ds)) ss else .err := rfl
@[simp] theorem mT_none {xs : List Vx} {ss : Sl} : mT none xs ss = mkTupO (takeL xs ss) := rfl
@[simp] theorem mL_none {xs : List Vx} {ss : Sl} : mL none xs ss = mkLstO (takeL xs ss) := rfl
@[simp] theorem mkTupO_some {ds : List D} {s : Sl} : mkTupO (some (ds, s)) = if ds.length ≤ sizeLine then .ok (.val (.mt ds)) s else .err := rfl
@[simp] theorem mkLstO_some {ds : List D} {s : Sl} : mkLstO (some (ds, s)) = if ds.length ≤ sizeLine then .ok (.val (.ml ds)) s else .err := rfl
def tkC (d : D) (o : Option (List D × Sl)) : Option (List D × Sl) := match o with
  | some (ds, s) => some (d :: ds, s)
  | none => none
def tkO (i : Nat) (xs : List Vx) (o : Option (Option D)) (ss : Sl) : Option (List D × Sl) := match o with
  | some (some d) => tkC d (takeL xs (ss.set i none))
  | _ => none
@[simp] theorem tk_nil {ss : Sl} : takeL [] ss = some ([], ss) := rfl
@[simp] theorem tk_val {d : D} {xs : List Vx} {ss : Sl} : takeL (.val d :: xs) ss = tkC d (takeL xs ss) := rfl
@[simp] theorem tk_plc {i : Nat} {xs : List Vx} {ss : Sl} : takeL (.plc i :: xs) ss = tkO i xs ss[i]? ss := rfl
@[simp] theorem tkC_some {d : D} {ds : List D} {s : Sl} : tkC d (some (ds, s)) = some (d :: ds, s) := rfl
@[simp] theorem tkO_some {i : Nat} {xs : List Vx} {d : D} {ss : Sl} : tkO i xs (some (some d)) ss = tkC d (takeL xs (ss.set i none)) := rfl
@[simp] theorem ga_nil {ss : Sl} : getAll [] ss = some [] := rfl
def ga2 (o : Option D) (r : Option (List D)) : Option (List D) := match o, r with
  | some d, some ds => some (d :: ds)
  | _, _ => none
@[simp] theorem ga_cons {x : Vx} {xs : List Vx} {ss : Sl} : getAll (x :: xs) ss = ga2 (x.get ss) (getAll xs ss) := rfl
@[simp] theorem ga2_some {d : D} {ds : List D} : ga2 (some d) (some ds) = some (d :: ds) := rfl
/-! ### calls -/
def oL (op : List D → Option D) (o : Option (List D)) (ss : Sl) : R Vx := match o with
  | some ds => match op ds with
    | some d => .ok (.val d) ss
    | none => .err
  | none => .err
theorem opL_eq {op : List D → Option D} {xs : List Vx} {ss : Sl} : opL op xs ss = oL op (getAll xs ss) ss := by
  unfold opL oL
  cases getAll xs ss with
  | none => rfl
  | some ds => rfl
@[simp] theorem ev_prim {op : List D → Option D} {g : AV} {ss : Sl} : dPrim op g ss = (g ss).bind fun xs s1 => oL op (getAll xs s1) s1 := by
  unfold dPrim
  have : opL op = fun xs s1 => oL op (getAll xs s1) s1 := by funext xs s1; exact opL_eq
  rw [this]
def oL2 (o : Option D) (ss : Sl) : R Vx := match o with
  | some d => .ok (.val d) ss
  | none => .err
@[simp] theorem oL_some {op : List D → Option D} {ds : List D} {ss : Sl} : oL op (some ds) ss = oL2 (op ds) ss := rfl
@[simp] theorem oL2_some {d : D} {ss : Sl} : oL2 (some d) ss = .ok (.val d) ss := rfl
/-- shut to the kernel: it would take the number apart -/
theorem absI_ex (i : Int) : ∃ j : Int, j = (i.natAbs : Int) := ⟨_, rfl⟩
noncomputable def absI (i : Int) : Int := Classical.choose (absI_ex i)
theorem absI_eq {i : Int} : absI i = (i.natAbs : Int) := Classical.choose_spec (absI_ex i)
theorem absI_nn {i : Int} : 0 ≤ absI i := by rw [absI_eq]; omega
@[simp] theorem bl_abs {i : Int} : bltD .abs [.int i] = some (.int (absI i)) := by
  rw [absI_eq]
  show some (D.int (if i < 0 then -i else i)) = _
  congr 2
  split <;> omega
@[simp] theorem bl_int {i : Int} : bltD .int [.int i] = some (.int i) := rfl
@[simp] theorem bl_max {i j : Int} : bltD .max [.int i, .int j] = some (.int (max i j)) := by
  show some (D.int (if j > i then j else i)) = _
  congr 2
  split <;> omega
@[simp] theorem bl_min {i j : Int} : bltD .min [.int i, .int j] = some (.int (min i j)) := by
  show some (D.int (if j < i then j else i)) = _
  congr 2
  split <;> omega
@[simp] theorem bl_lenT {ds : List D} : bltD .len [.tup ds] = some (.int ds.length) := rfl
@[simp] theorem bl_lenL {ds : List D} : bltD .len [.lst ds] = some (.int ds.length) := rfl
@[simp] theorem bl_lenM {ds : List D} : bltD .len [.ml ds] = some (.int ds.length) := rfl
@[simp] theorem bl_lenK {ds : List D} : bltD .len [.kl ds] = some (.int ds.length) := rfl
def endC (r : RF) (xs : List Vx) (ss : Sl) : R Vx := match r with
  | .ok d as => .ok (.val d) (wb xs as ss)
  | .exc e as => .exc e (wb xs as ss)
  | .err => .err
def cF (n : Nat) (F : FV) (xs : List Vx) (o : Option (List D)) (ss : Sl) : R Vx := match o with
  | some ds => if ds.length = n ∧ (plcs xs).Nodup then endC (F ds) xs ss else .err
  | none => .err
@[simp] theorem ev_call {n : Nat} {F : FV} {g : AV} {ss : Sl} : dCall n F g ss = (g ss).bind fun xs s1 => cF n F xs (getAll xs s1) s1 := by
  unfold dCall
  congr 1
@[simp] theorem cF_some {n : Nat} {F : FV} {xs : List Vx} {ds : List D} {ss : Sl} : cF n F xs (some ds) ss = if ds.length = n ∧ (plcs xs).Nodup then endC (F ds) xs ss else .err := rfl
@[simp] theorem endC_ok {d : D} {as : List D} {xs : List Vx} {ss : Sl} : endC (.ok d as) xs ss = .ok (.val d) (wb xs as ss) := rfl
@[simp] theorem plcs_nil : plcs [] = [] := rfl
@[simp] theorem plcs_val {d : D} {r : List Vx} : plcs (.val d :: r) = plcs r := rfl
@[simp] theorem plcs_plc {i : Nat} {r : List Vx} : plcs (.plc i :: r) = i :: plcs r := rfl
@[simp] theorem wb_nil {as : List D} {ss : Sl} : wb [] as ss = ss := by unfold wb; rfl
@[simp] theorem wb_val {d a : D} {r : List Vx} {as : List D} {ss : Sl} : wb (.val d :: r) (a :: as) ss = wb r as ss := rfl
@[simp] theorem wb_plc {i : Nat} {a : D} {r : List Vx} {as : List D} {ss : Sl} : wb (.plc i :: r) (a :: as) ss = wb r as (ss.set i (some a)) := rfl
def endK (r : RF) (ss : Sl) : R Vx := match r with
  | .ok d _ => .ok (.val d) ss
  | .exc e _ => .exc e ss
  | .err => .err
def kF2 (F : FV) (o : Option (List D)) (ss : Sl) : R Vx := match o with
  | some es => endK (F es) ss
  | none => .err
def kF (ps ks : List Str) (F : FV) (o : Option (List D)) (ss : Sl) : R Vx := match o with
  | some ds => if ds.length = ks.length then kF2 F (permL ks ps ds) ss else .err
  | none => .err
@[simp] theorem ev_callK {ps ks : List Str} {F : FV} {g : AV} {ss : Sl} : dCallK ps ks F g ss = (g ss).bind fun xs s1 => kF ps ks F (pures xs) s1 := rfl
@[simp] theorem kF_some {ps ks : List Str} {F : FV} {ds : List D} {ss : Sl} : kF ps ks F (some ds) ss = if ds.length = ks.length then kF2 F (permL ks ps ds) ss else .err := rfl
@[simp] theorem kF2_some {F : FV} {es : List D} {ss : Sl} : kF2 F (some es) ss = endK (F es) ss := rfl
@[simp] theorem endK_ok {d : D} {as : List D} {ss : Sl} : endK (.ok d as) ss = .ok (.val d) ss := rfl
def aI (c : Cl) (o : Option D) (ss : Sl) : R Vx := match o with
  | some d => match isiD d c with
    | some b => .ok (.val (.bl b)) ss
    | none => .err
  | none => .err
@[simp] theorem ev_isi {c : Cl} {f : EV} {ss : Sl} : dIsi c f ss = (f ss).bind fun x s1 => aI c (x.get s1) s1 := rfl
@[simp] theorem aI_int {i : Int} {c : Cl} {ss : Sl} : aI c (some (.int i)) ss = .ok (.val (.bl (isTy .int c))) ss := rfl
@[simp] theorem aI_bl {i : Bool} {c : Cl} {ss : Sl} : aI c (some (.bl i)) ss = .ok (.val (.bl (isTy .bl c))) ss := rfl
@[simp] theorem aI_str {i : Str} {c : Cl} {ss : Sl} : aI c (some (.str i)) ss = .ok (.val (.bl (isTy .str c))) ss := rfl
@[simp] theorem aI_tup {i} {c : Cl} {ss : Sl} : aI c (some (.tup i)) ss = .ok (.val (.bl (isTy .tup c))) ss := rfl
@[simp] theorem aI_lst {i} {c : Cl} {ss : Sl} : aI c (some (.lst i)) ss = .ok (.val (.bl (isTy .lst c))) ss := rfl
@[simp] theorem aI_kl {i} {c : Cl} {ss : Sl} : aI c (some (.kl i)) ss = .ok (.val (.bl (isTy .lst c))) ss := rfl
@[simp] theorem aI_ml {i} {c : Cl} {ss : Sl} : aI c (some (.ml i)) ss = .ok (.val (.bl (isTy .lst c))) ss := rfl
@[simp] theorem aI_non {c : Cl} {ss : Sl} : aI c (some .non) ss = .ok (.val (.bl (isTy .non c))) ss := rfl
@[simp] theorem ty1 : isTy .int .int = true := rfl
@[simp] theorem ty2 : isTy .int .bool = false := rfl
@[simp] theorem ty3 : isTy .tup .tuple = true := rfl
@[simp] theorem ty4 : isTy .lst .list = true := rfl
@[simp] theorem ty5 : isTy .bl .bool = true := rfl
@[simp] theorem ty6 : isTy .bl .int = true := rfl
@[simp] theorem ty7 : isTy .str .str = true := rfl
@[simp] theorem ty8 : isTy .lst .tuple = false := rfl
@[simp] theorem ty9 : isTy .tup .list = false := rfl
@[simp] theorem ty10 : isTy .str .int = false := rfl
@[simp] theorem ty11 : isTy .int .str = false := rfl
/-! ### subscripts -/
def ix1 (o : Option D) : Option D := match o with
  | some d => if d.pure = true then some d else none
  | none => none
@[simp] theorem ix_tup {ds : List D} {i : Int} : ixD (.tup ds) (.int i) = ix1 (atI ds i) := rfl
@[simp] theorem ix_lst {ds : List D} {i : Int} : ixD (.lst ds) (.int i) = ix1 (atI ds i) := rfl
@[simp] theorem ix_ml {ds : List D} {i : Int} : ixD (.ml ds) (.int i) = ix1 (atI ds i) := rfl
@[simp] theorem ix_kl {ds : List D} {i : Int} : ixD (.kl ds) (.int i) = ix1 (atI ds i) := rfl
@[simp] theorem ix1_some {d : D} : ix1 (some d) = if d.pure = true then some d else none := rfl
theorem atI_pos {α : Type} {xs : List α} {i : Int} {a : α} (h0 : 0 ≤ i) (h : xs[i.toNat]? = some a) : atI xs i = some a := by
  have hl := (List.getElem?_eq_some_iff.mp h).1
  unfold atI ixN
  rw [if_pos h0, if_pos (by omega)]
  exact h
@[simp] theorem at0 {α : Type} {a : α} {xs : List α} : atI (a :: xs) 0 = some a := atI_pos (by decide) rfl
@[simp] theorem at1 {α : Type} {a b : α} {xs : List α} : atI (a :: b :: xs) 1 = some b := atI_pos (by decide) rfl
@[simp] theorem at2 {α : Type} {a b c : α} {xs : List α} : atI (a :: b :: c :: xs) 2 = some c := atI_pos (by decide) rfl
@[simp] theorem at3 {α : Type} {a b c d : α} {xs : List α} : atI (a :: b :: c :: d :: xs) 3 = some d := atI_pos (by decide) rfl
/-! ### statements -/
variable {L : List Nat} {ss : Sl}
@[simp] theorem sv_pass : dPass L ss = .nx ss := rfl
@[simp] theorem sv_break : dBreak L ss = .bk ss := rfl
@[simp] theorem sv_cont : dCont L ss = .ct ss := rfl
@[simp] theorem sv_retN : dRetN L ss = .rt .non ss := rfl
@[simp] theorem sv_drop {f : EV} : dDrop f L ss = (f ss).toS fun _ s1 => .nx s1 := rfl
@[simp] theorem sv_ret {f : EV} : dRet f L ss = (f ss).toS fun x s1 => retX L x s1 := rfl
@[simp] theorem retX_val {d : D} : retX L (.val d) ss = .rt d ss := rfl
def rtO (i : Nat) (o : Option (Option D)) (ss : Sl) : RS := match o with
  | some (some d) => .rt d (ss.set i none)
  | _ => .err
@[simp] theorem retX_plc {i : Nat} : retX L (.plc i) ss = if i ∈ L then .err else rtO i ss[i]? ss := rfl
@[simp] theorem rtO_some {i : Nat} {d : D} : rtO i (some (some d)) ss = .rt d (ss.set i none) := rfl
@[simp] theorem sv_if {t : TV} {a b : SV} : dIf t a b L ss = (t ss).toS fun c s1 => if c = true then a L s1 else b L s1 := rfl
@[simp] theorem sv_seq {a b : SV} : dSeq a b L ss = (a L ss).seq (b L) := rfl
@[simp] theorem sv_set {i : Nat} {f : EV} : dSet i f L ss = (f ss).toS fun x s1 => setX L i x s1 := rfl
@[simp] theorem setX_val {i : Nat} {d : D} : setX L i (.val d) ss = if i ∈ L ∨ ss.length ≤ i then .err else .nx (ss.set i (some d)) := rfl
@[simp] theorem sv_par {is : List Nat} {g : AV} : dPar is g L ss = (g ss).toS fun xs s1 => setMany L is xs s1 := rfl
@[simp] theorem sm_nil : setMany L [] [] ss = .nx ss := rfl
@[simp] theorem sm_cons {i : Nat} {is : List Nat} {x : Vx} {xs : List Vx} : setMany L (i :: is) (x :: xs) ss = (setX L i x ss).seq (setMany L is xs) := rfl
@[simp] theorem isMl_ml {ds : List D} : isMl (some (some (.ml ds))) = true := rfl
@[simp] theorem sv_setIx {i : Nat} {k f : EV} : dSetIx i k f L ss = (f ss).toS fun x s1 => if isMl s1[i]? = true then (k s1).toS fun y s2 => asg2 i x y s2 else .err := rfl
def as3 (i : Nat) (d : D) (ds : List D) (o : Option Nat) (ss : Sl) : RS := match o with
  | some j => .nx (ss.set i (some (.ml (ds.set j d))))
  | none => .err
def as4 (i : Nat) (d : D) (k : Int) (o : Option (Option D)) (ss : Sl) : RS := match o with
  | some (some (.ml ds)) => if d.pure = true ∧ allPure ds = true then as3 i d ds (ixN ds.length k) ss else .err
  | _ => .err
@[simp] theorem asg2_ap {i : Nat} {d : D} {k : Int} : asg2 i (.val d) (.val (.int k)) ss = as4 i d k ss[i]? ss := by
  unfold asg2 as4
  split
  · rename_i d' k' ds e1 e2 e3
    cases e1; cases e2
    rw [e3]
    dsimp only
    split
    · unfold as3; cases ixN ds.length k <;> rfl
    · rfl
  · rename_i h
    split
    · rename_i ds e
      exact absurd e (h d k ds rfl rfl)
    · rfl
@[simp] theorem as4_ml {i : Nat} {d : D} {k : Int} {ds : List D} : as4 i d k (some (some (.ml ds))) ss = if d.pure = true ∧ allPure ds = true then as3 i d ds (ixN ds.length k) ss else .err := rfl
@[simp] theorem as3_some {i j : Nat} {d : D} {ds : List D} : as3 i d ds (some j) ss = .nx (ss.set i (some (.ml (ds.set j d)))) := rfl
@[simp] theorem ixN_0 {n : Nat} (h : 0 < n) : ixN n 0 = some 0 := by unfold ixN; rw [if_pos (by decide), if_pos (by omega)]; rfl
@[simp] theorem ixN_1 {n : Nat} (h : 1 < n) : ixN n 1 = some 1 := by unfold ixN; rw [if_pos (by decide), if_pos (by omega)]; rfl
def augO (L : List Nat) (op : Operator) (i : Nat) (f : EV) (o : Option (Option D)) (ss : Sl) : RS := match o with
  | some (some d) => (f ss).toS (augX L op i d)
  | _ => .err
@[simp] theorem sv_aug {op : Operator} {i : Nat} {f : EV} : dAug op i f L ss = augO L op i f ss[i]? ss := rfl
@[simp] theorem augO_some {op : Operator} {i : Nat} {f : EV} {d : D} : augO L op i f (some (some d)) ss = (f ss).toS (augX L op i d) := rfl
def augS (L : List Nat) (i : Nat) (o : Option D) (ss : Sl) : RS := match o with
  | some z => if i ∈ L ∨ ss.length ≤ i then .err else .nx (ss.set i (some z))
  | none => .err
@[simp] theorem augX_val {op : Operator} {i : Nat} {d e : D} : augX L op i d (.val e) ss = augS L i (augD op d e) ss := rfl
@[simp] theorem augS_some {i : Nat} {z : D} : augS L i (some z) ss = if i ∈ L ∨ ss.length ≤ i then .err else .nx (ss.set i (some z)) := rfl
@[simp] theorem aug_add {i j : Int} : augD .Add (.int i) (.int j) = some (.int (i + j)) := rfl
@[simp] theorem aug_sub {i j : Int} : augD .Sub (.int i) (.int j) = some (.int (i - j)) := rfl
@[simp] theorem ev_append {i : Nat} {f : EV} : dAppend i f ss = if isMl ss[i]? = true then (foldA [f] ss).bind fun xs s1 => appendX i xs s1 else .err := rfl
@[simp] theorem appendX_ap {i : Nat} {d : D} : appendX i [.val d] ss = appO i d ss[i]? ss := rfl
@[simp] theorem appendX_pl {i j : Nat} : appendX i [.plc j] ss = appT i (takeL [.plc j] ss) := rfl
@[simp] theorem appT_one {i : Nat} {d : D} {s : Sl} : appT i (some ([d], s)) = appO i d s[i]? s := rfl
@[simp] theorem appO_ml {i : Nat} {d : D} {ds : List D} : appO i d (some (some (.ml ds))) ss = if ds.length < sizeLine then .ok (.val .non) (ss.set i (some (.ml (ds ++ [d])))) else .err := rfl
def unpO (L : List Nat) (o : Option Sl) : RS := match o with
  | some s1 => .nx s1
  | none => .err
@[simp] theorem sv_unp {tg : Tg} {f : EV} : dUnp tg f L ss = (f ss).toS fun x s1 => unpX L tg x s1 := rfl
@[simp] theorem unpX_val {tg : Tg} {d : D} : unpX L tg (.val d) ss = if d.pure = true then unpO L (tgSet L tg d ss) else unpM L tg d ss := rfl
@[simp] theorem unpX_plc {tg : Tg} {j : Nat} : unpX L tg (.plc j) ss = unpJ L tg j ss[j]? ss := rfl
@[simp] theorem unpJ_some {tg : Tg} {j : Nat} {d : D} : unpJ L tg j (some (some d)) ss = unpM L tg d (ss.set j none) := rfl
@[simp] theorem unpM_mt {is : List Nat} {ds : List D} : unpM L (.tp is) (.mt ds) ss = setMany L is (ds.map Vx.val) ss := rfl
@[simp] theorem unpO_some {s1 : Sl} : unpO L (some s1) = .nx s1 := rfl
@[simp] theorem set1_ap {i : Nat} {d : D} : set1 L i d ss = if i ∈ L ∨ ss.length ≤ i then none else some (ss.set i (some d)) := rfl
@[simp] theorem tg_nm {i : Nat} {d : D} : tgSet L (.nm i) d ss = set1 L i d ss := by unfold tgSet; rfl
@[simp] theorem tg_tp {is : List Nat} {ds : List D} : tgSet L (.tp is) (.tup ds) ss = if ds.length = is.length then setL L is ds ss else none := by unfold tgSet; rfl
@[simp] theorem tg_tn {ts : List Tg} {ds : List D} : tgSet L (.tn ts) (.tup ds) ss = if ds.length = ts.length then tgSetL L ts ds ss else none := by
  unfold tgSet itemsOf
  dsimp only
  split <;> rename_i h <;> split at h <;> simp_all
@[simp] theorem tgL_nil : tgSetL L [] [] ss = some ss := by unfold tgSetL; rfl
@[simp] theorem tgL_cons {t : Tg} {ts : List Tg} {d : D} {ds : List D} : tgSetL L (t :: ts) (d :: ds) ss = (tgSet L t d ss).bind fun s1 => tgSetL L ts ds s1 := by
  show tgSetL L (t :: ts) (d :: ds) ss = _
  conv => lhs; unfold tgSetL
  dsimp only
  cases tgSet L t d ss <;> rfl
@[simp] theorem setL_nil : setL L [] [] ss = some ss := rfl
@[simp] theorem setL_cons {i : Nat} {is : List Nat} {d : D} {ds : List D} : setL L (i :: is) (d :: ds) ss = (set1 L i d ss).bind fun s1 => setL L is ds s1 := by
  show (match set1 L i d ss with | some s1 => setL L is ds s1 | none => none) = _
  cases set1 L i d ss <;> rfl
/-! ### loops -/
@[simp] theorem sv_for {f : IV} {tg : Tg} {g : SV} : dFor f tg g L ss = (f ss).toS fun it s1 => forGo tg g it (lkOf L it) it.ds s1 := rfl
@[simp] theorem lk_none {ds : List D} : lkOf L ⟨ds, none⟩ = L := rfl
@[simp] theorem lk_some {ds es : List D} {j : Nat} : lkOf L ⟨ds, some (j, es)⟩ = j :: L := rfl
theorem src_none {ds : List D} : srcOk ⟨ds, none⟩ ss = true := rfl
theorem src_some {ds es : List D} {j : Nat} (h : ss[j]? = some (some (.ml es))) : srcOk ⟨ds, some (j, es)⟩ ss = true := by
  unfold srcOk
  dsimp only
  rw [if_pos h]
@[simp] theorem iv_seq {f : EV} : dSeqIt f ss = (f ss).bind fun x s1 => seqIt x s1 := rfl
@[simp] theorem seqIt_tup {ds : List D} : seqIt (.val (.tup ds)) ss = .ok ⟨ds, none⟩ ss := rfl
@[simp] theorem seqIt_lst {ds : List D} : seqIt (.val (.lst ds)) ss = .ok ⟨ds, none⟩ ss := rfl
@[simp] theorem seqIt_kl {ds : List D} : seqIt (.val (.kl ds)) ss = .ok ⟨ds, none⟩ ss := rfl
def sqO (j : Nat) (o : Option (Option D)) (ss : Sl) : R ItD := match o with
  | some (some (.ml ds)) => if allPure ds = true then .ok ⟨ds, some (j, ds)⟩ ss else .err
  | _ => .err
@[simp] theorem seqIt_plc {j : Nat} : seqIt (.plc j) ss = sqO j ss[j]? ss := rfl
@[simp] theorem sqO_ml {j : Nat} {ds : List D} : sqO j (some (some (.ml ds))) ss = if allPure ds = true then .ok ⟨ds, some (j, ds)⟩ ss else .err := rfl
@[simp] theorem iv_rev {f : EV} : dRevIt f ss = (f ss).bind fun x s1 => revIt x s1 := rfl
def rvO (j : Nat) (o : Option (Option D)) (ss : Sl) : R ItD := match o with
  | some (some (.ml ds)) => if allPure ds = true then .ok ⟨ds.reverse, some (j, ds)⟩ ss else .err
  | _ => .err
@[simp] theorem revIt_plc {j : Nat} : revIt (.plc j) ss = rvO j ss[j]? ss := rfl
@[simp] theorem rvO_ml {j : Nat} {ds : List D} : rvO j (some (some (.ml ds))) ss = if allPure ds = true then .ok ⟨ds.reverse, some (j, ds)⟩ ss else .err := rfl
@[simp] theorem revIt_tup {ds : List D} : revIt (.val (.tup ds)) ss = .ok ⟨ds.reverse, none⟩ ss := rfl
@[simp] theorem revIt_lst {ds : List D} : revIt (.val (.lst ds)) ss = .ok ⟨ds.reverse, none⟩ ss := rfl
@[simp] theorem revIt_kl {ds : List D} : revIt (.val (.kl ds)) ss = .ok ⟨ds.reverse, none⟩ ss := rfl
@[simp] theorem iv_rng {g : AV} : dRng g ss = (g ss).bind fun xs s1 => rngIt xs s1 := rfl
@[simp] theorem rng_1 {j : Int} (h : -4611686018427387904 ≤ j ∧ j < 4611686018427387904) : rngIt [.val (.int j)] ss = .ok ⟨rngD 0 j.toNat, none⟩ ss := by
  show (if smallI j = true then _ else _) = _
  rw [if_pos]
  unfold smallI
  simp only [Bool.and_eq_true, decide_eq_true_eq]
  exact h
@[simp] theorem rng_2 {i j : Int} (h : (-4611686018427387904 ≤ i ∧ i < 4611686018427387904) ∧ (-4611686018427387904 ≤ j ∧ j < 4611686018427387904)) : rngIt [.val (.int i), .val (.int j)] ss = .ok ⟨rngD i (j - i).toNat, none⟩ ss := by
  show (if (smallI i && smallI j) = true then _ else _) = _
  rw [if_pos]
  unfold smallI
  simp only [Bool.and_eq_true, decide_eq_true_eq]
  exact h
/-- a loop by its invariant over what is walked: I k holds before turn k -/
theorem for_inv {tg : Tg} {g : SV} {it : ItD} (I : Nat → Sl → Prop) (h0 : I 0 ss) (hs : ∀ k s, I k s → srcOk it s = true)
    (step : ∀ k s d, I k s → it.ds[k]? = some d → ∃ s1 s2, tgSet L tg d s = some s1 ∧ (g L s1 = .nx s2 ∨ g L s1 = .ct s2) ∧ I (k + 1) s2) : ∃ s', forGo tg g it L it.ds ss = .nx s' ∧ I it.ds.length s' := by
  have go : ∀ (r : List D) (k : Nat) (s : Sl), it.ds.drop k = r → k ≤ it.ds.length → I k s → ∃ s', forGo tg g it L r s = .nx s' ∧ I it.ds.length s' := by
    intro r
    induction r with
    | nil =>
      intro k s hr hk hI
      have : k = it.ds.length := by
        have := congrArg List.length hr
        rw [List.length_drop] at this
        simp at this
        omega
      subst this
      refine ⟨s, ?_, hI⟩
      unfold forGo
      rw [if_pos (hs _ _ hI)]
    | cons d r ih =>
      intro k s hr hk hI
      have hk' : k < it.ds.length := by
        have := congrArg List.length hr
        rw [List.length_drop] at this
        simp at this
        omega
      have hd : it.ds[k]? = some d := by
        rw [List.drop_eq_getElem_cons hk'] at hr
        injection hr with h1 h2
        rw [List.getElem?_eq_getElem hk', h1]
      have hr' : it.ds.drop (k + 1) = r := by
        rw [List.drop_eq_getElem_cons hk'] at hr
        injection hr with h1 h2
      obtain ⟨s1, s2, e1, e2, h2⟩ := step k s d hI hd
      obtain ⟨s', e3, h3⟩ := ih (k + 1) s2 hr' hk' h2
      refine ⟨s', ?_, h3⟩
      unfold forGo
      rw [if_pos (hs _ _ hI), e1]
      dsimp only
      rcases e2 with e2 | e2
      · rw [e2]; exact e3
      · rw [e2]; exact e3
  exact go it.ds 0 ss rfl (Nat.zero_le _) h0
theorem for_of {tg : Tg} {g : SV} {it : ItD} {r : RS} (hf : forGo tg g it L it.ds ss = r) (I : Nat → Sl → Prop) (h0 : I 0 ss) (hs : ∀ k s, I k s → srcOk it s = true)
    (step : ∀ k s d, I k s → it.ds[k]? = some d → ∃ s1 s2, tgSet L tg d s = some s1 ∧ (g L s1 = .nx s2 ∨ g L s1 = .ct s2) ∧ I (k + 1) s2) : ∃ s', r = .nx s' ∧ I it.ds.length s' := by
  obtain ⟨s', e, h⟩ := for_inv I h0 hs step
  exact ⟨s', hf.symm.trans e, h⟩
/-- a while by an invariant with its measure -/
theorem while_inv {t : TV} {g : SV} (I : Nat → Sl → Prop) {m : Nat} (h0 : I m ss) {Z : Sl → Prop}
    (step : ∀ m s, I m s → (∃ s1, t s = .ok false s1 ∧ Z s1) ∨ (∃ s1 s2, t s = .ok true s1 ∧ (g L s1 = .nx s2 ∨ g L s1 = .ct s2) ∧ ∃ m', m' < m ∧ I m' s2)) : ∃ s', dWhile t g L ss = .nx s' ∧ Z s' := by
  have go : ∀ (n m : Nat) (s : Sl), m < n → I m s → ∃ s', whGo t g L n s = .nx s' ∧ Z s' := by
    intro n
    induction n with
    | zero => intro m s h; omega
    | succ n ih =>
      intro m s hm hI
      rcases step m s hI with ⟨s1, e1, z⟩ | ⟨s1, s2, e1, e2, m', hm', h2⟩
      · refine ⟨s1, ?_, z⟩
        unfold whGo
        rw [e1]
        rfl
      · obtain ⟨s', e3, z⟩ := ih m' s2 (by omega) h2
        refine ⟨s', ?_, z⟩
        unfold whGo
        rw [e1]
        dsimp only [R.toS_ok]
        rw [if_pos rfl]
        rcases e2 with e2 | e2
        · rw [e2]; exact e3
        · rw [e2]; exact e3
  obtain ⟨s', e, z⟩ := go (m + 1) m ss (Nat.lt_succ_self _) h0
  exact ⟨s', (letI : ZS := ⟨fun _ => False⟩; dWhile_eq e (fun z => by cases z)), z⟩
theorem while_of {t : TV} {g : SV} {r : RS} (hf : dWhile t g L ss = r) (I : Nat → Sl → Prop) (m : Nat) (h0 : I m ss) (Z : Sl → Prop)
    (step : ∀ m s, I m s → (∃ s1, t s = .ok false s1 ∧ Z s1) ∨ (∃ s1 s2, t s = .ok true s1 ∧ (g L s1 = .nx s2 ∨ g L s1 = .ct s2) ∧ ∃ m', m' < m ∧ I m' s2)) : ∃ s', r = .nx s' ∧ Z s' := by
  obtain ⟨s', e, h⟩ := while_inv (Z := Z) I h0 step
  exact ⟨s', hf.symm.trans e, h⟩
/-! ### defs -/
@[simp] theorem lo_nil {i : Nat} : locksOf i [] = [] := rfl
@[simp] theorem lo_cons {i : Nat} {d : D} {ds : List D} : locksOf i (d :: ds) = if d.pure = true then locksOf (i + 1) ds else i :: locksOf (i + 1) ds := rfl
@[simp] theorem fn_ap {n N : Nat} {g : SV} {ds : List D} : dFn n N g ds = if ds.length = n ∧ n ≤ N then endF ds (g (locksOf 0 ds) (ds.map some ++ List.replicate (N - n) none)) else .err := rfl
def enO (d : D) (o : Option (List D)) : RF := match o with
  | some as => .ok d as
  | none => .err
@[simp] theorem en_nx {ds : List D} : endF ds (.nx ss) = enO .non (wbk ds ss) := rfl
@[simp] theorem en_rt {ds : List D} {d : D} : endF ds (.rt d ss) = enO d (wbk ds ss) := rfl
@[simp] theorem enO_some {d : D} {as : List D} : enO d (some as) = .ok d as := rfl
@[simp] theorem wbk_nil : wbk [] ss = some [] := by unfold wbk; rfl
def wk2 (o : Option D) (r : Option (List D)) : Option (List D) := match o, r with
  | some e, some es => some (e :: es)
  | _, _ => none
@[simp] theorem wbk_cons {d : D} {ds : List D} {o : Option D} : wbk (d :: ds) (o :: ss) = wk2 (if d.pure = true then some d else o) (wbk ds ss) := rfl
@[simp] theorem wk2_some {d : D} {ds : List D} : wk2 (some d) (some ds) = some (d :: ds) := rfl
/-! ### exceptions -/
@[simp] theorem en_exc {ds : List D} {e : Ex} : endF ds (.exc e ss) = (match wbk ds ss with | some as => .exc e as | none => .err) := rfl
@[simp] theorem endC_exc {e : Ex} {as : List D} {xs : List Vx} : endC (.exc e as) xs ss = .exc e (wb xs as ss) := rfl
@[simp] theorem endK_exc {e : Ex} {as : List D} : endK (.exc e as) ss = .exc e ss := rfl
@[simp] theorem sv_raise {c fld : Str} {f : EV} : dRaise c fld f L ss = (foldA [f] ss).toS fun xs s1 => raiX c fld xs s1 := rfl
@[simp] theorem raiX_val {c fld : Str} {d : D} : raiX c fld [.val d] ss = if d.pure = true then .exc ⟨c, [fld], [d]⟩ ss else .err := rfl
def trO (L : List Nat) (m : List ((Str × Str) × Bool)) (y : Str) (suite : SV) (r : RS) : RS := match r with
  | .exc e s1 => match lookM m e.c y with
    | some true => noX (suite L s1)
    | some false => .exc e s1
    | none => .err
  | o => o
@[simp] theorem sv_tryO {body suite : SV} {m : List ((Str × Str) × Bool)} {y : Str} : dTryO body m y suite L ss = trO L m y suite (body L ss) := by
  unfold dTryO trO
  cases body L ss <;> rfl
@[simp] theorem trO_nx {m : List ((Str × Str) × Bool)} {y : Str} {suite : SV} : trO L m y suite (.nx ss) = .nx ss := rfl
@[simp] theorem trO_rt {m : List ((Str × Str) × Bool)} {y : Str} {suite : SV} {d : D} : trO L m y suite (.rt d ss) = .rt d ss := rfl
theorem trO_yes {m : List ((Str × Str) × Bool)} {y : Str} {suite : SV} {e : Ex} (h : lookM m e.c y = some true) : trO L m y suite (.exc e ss) = noX (suite L ss) := by
  unfold trO
  dsimp only
  rw [h]
@[simp] theorem noX_nx : noX (.nx ss) = .nx ss := rfl
@[simp] theorem noX_rt {d : D} : noX (.rt d ss) = .rt d ss := rfl
noncomputable def trA (L : List Nat) (m : List ((Str × Str) × Bool)) (y : Str) (i : Nat) (suite : Nat → Nat → Str → SV) (r : RS) : RS := match r with
  | .exc e s1 => match lookM m e.c y with
    | some true => if i ∈ L ∨ s1.length ≤ i ∨ e.ns = [] then .err else caught i e (fun a dx => suite a dx e.c) L s1
    | some false => .exc e s1
    | none => .err
  | o => o
@[simp] theorem sv_tryA {body : SV} {suite : Nat → Nat → Str → SV} {m : List ((Str × Str) × Bool)} {y : Str} {i : Nat} : dTryA body m y i suite L ss = trA L m y i suite (body L ss) := by
  unfold dTryA trA
  cases body L ss <;> rfl
@[simp] theorem trA_nx {m : List ((Str × Str) × Bool)} {y : Str} {i : Nat} {suite : Nat → Nat → Str → SV} : trA L m y i suite (.nx ss) = .nx ss := rfl
@[simp] theorem trA_rt {m : List ((Str × Str) × Bool)} {y : Str} {i : Nat} {suite : Nat → Nat → Str → SV} {d : D} : trA L m y i suite (.rt d ss) = .rt d ss := rfl
/-- the caught one: the suite's end does not hang on where it stands -/
theorem trA_yes {m : List ((Str × Str) × Bool)} {y : Str} {i : Nat} {suite : Nat → Nat → Str → SV} {e : Ex} {r : RS} (h : lookM m e.c y = some true) (h1 : i ∉ L) (h2 : i < ss.length) (h3 : e.ns ≠ [])
    (hr : ∀ a dx, clrS i (suite a dx e.c L (ss.set i (some (.exo a dx e.c e.ns e.ds)))) = r) : trA L m y i suite (.exc e ss) = r := by
  unfold trA
  dsimp only
  rw [h]
  dsimp only
  rw [if_neg (by rintro (z | z | z) <;> first | exact h1 z | exact h3 z | omega)]
  have ex : ∃ r, ∀ a dx, clrS i (suite a dx e.c L (ss.set i (some (.exo a dx e.c e.ns e.ds)))) = r := ⟨r, hr⟩
  unfold caught
  rw [dif_pos ex]
  exact ((Classical.choose_spec ex) 0 0).symm.trans (hr 0 0)
/-! ### comprehensions, enumerate, zip -/
@[simp] theorem iv_enum {g : AV} : dEnum g ss = (g ss).bind fun xs s1 => enumIt xs s1 := rfl
@[simp] theorem enumIt_lst {ds : List D} : enumIt [.val (.lst ds)] ss = .ok ⟨enumD ds, none⟩ ss := rfl
@[simp] theorem enumIt_tup {ds : List D} : enumIt [.val (.tup ds)] ss = .ok ⟨enumD ds, none⟩ ss := rfl
@[simp] theorem enumIt_kl {ds : List D} : enumIt [.val (.kl ds)] ss = .ok ⟨enumD ds, none⟩ ss := rfl
def enO2 (j : Nat) (o : Option (Option D)) (ss : Sl) : R ItD := match o with
  | some (some (.ml ds)) => if allPure ds = true then .ok ⟨enumD ds, some (j, ds)⟩ ss else .err
  | _ => .err
@[simp] theorem enumIt_plc {j : Nat} : enumIt [.plc j] ss = enO2 j ss[j]? ss := rfl
@[simp] theorem enO2_ml {j : Nat} {ds : List D} : enO2 j (some (some (.ml ds))) ss = if allPure ds = true then .ok ⟨enumD ds, some (j, ds)⟩ ss else .err := rfl
@[simp] theorem iv_zip {g : AV} : dZip g ss = (g ss).bind fun xs s1 => zipIt xs s1 := rfl
@[simp] theorem zipIt_lst {ds es : List D} : zipIt [.val (.lst ds), .val (.lst es)] ss = .ok ⟨zipD ds es, none⟩ ss := rfl
@[simp] theorem zipIt_kl {ds es : List D} : zipIt [.val (.kl ds), .val (.kl es)] ss = .ok ⟨zipD ds es, none⟩ ss := rfl
@[simp] theorem zipIt_kll {ds es : List D} : zipIt [.val (.kl ds), .val (.lst es)] ss = .ok ⟨zipD ds es, none⟩ ss := rfl
@[simp] theorem zipIt_lkl {ds es : List D} : zipIt [.val (.lst ds), .val (.kl es)] ss = .ok ⟨zipD ds es, none⟩ ss := rfl
@[simp] theorem zipIt_tup {ds es : List D} : zipIt [.val (.tup ds), .val (.tup es)] ss = .ok ⟨zipD ds es, none⟩ ss := rfl
@[simp] theorem dYes_ap : dYes ss = .ok true ss := rfl
@[simp] theorem ev_lc {f : IV} {tg : Tg} {tt : TV} {te : EV} {vs : List Nat} : dLc f tg tt te vs ss = (f ss).bind fun it s1 => if purS s1 vs = true then (lcGo tg tt te vs it it.ds [] s1).bind (lcEnd s1 vs) else .err := rfl
@[simp] theorem mem_out {n i : Nat} {vs : List Nat} : i ∈ outL n vs ↔ i < n ∧ i ∉ vs := letI : ZS := ⟨fun _ => False⟩; mem_outL
@[simp] theorem wipeS_nil : wipeS ss [] = ss := rfl
@[simp] theorem wipeS_cons {v : Nat} {vs : List Nat} : wipeS ss (v :: vs) = (wipeS ss vs).set v none := rfl
@[simp] theorem restS_nil {s0 : Sl} : restS s0 ss [] = ss := rfl
@[simp] theorem restS_cons {s0 : Sl} {v : Nat} {vs : List Nat} : restS s0 ss (v :: vs) = (restS s0 ss vs).set v ((s0[v]?).getD none) := rfl
@[simp] theorem lcEnd_ap {s1 : Sl} {vs : List Nat} {acc : List D} : lcEnd s1 vs acc ss = .ok (.val (.ml acc)) (restS s1 ss vs) := rfl
/-- a comprehension by its invariant: I k acc holds before turn k -/
theorem lc_inv {tg : Tg} {tt : TV} {te : EV} {vs : List Nat} {it : ItD} (I : Nat → List D → Sl → Prop) (h0 : I 0 [] ss) (hs : ∀ k acc s, I k acc s → purS s vs = true ∧ srcOk it (wipeS s vs) = true)
    (step : ∀ k acc s d, I k acc s → it.ds[k]? = some d → ∃ s1 b s2, tgSet (outL s.length vs) tg d (wipeS s vs) = some s1 ∧ tt s1 = .ok b s2 ∧
      (b = true → ∃ x s3, te s2 = .ok (.val x) s3 ∧ x.pure = true ∧ acc.length < sizeLine ∧ I (k + 1) (acc ++ [x]) s3) ∧ (b = false → I (k + 1) acc s2)) :
    ∃ acc s, lcGo tg tt te vs it it.ds [] ss = .ok acc (wipeS s vs) ∧ I it.ds.length acc s := by
  have go : ∀ (r : List D) (k : Nat) (acc : List D) (s : Sl), it.ds.drop k = r → k ≤ it.ds.length → I k acc s → ∃ acc' s', lcGo tg tt te vs it r acc s = .ok acc' (wipeS s' vs) ∧ I it.ds.length acc' s' := by
    intro r
    induction r with
    | nil =>
      intro k acc s hr hk hI
      have : k = it.ds.length := by
        have := congrArg List.length hr
        rw [List.length_drop] at this
        simp at this
        omega
      subst this
      refine ⟨acc, s, ?_, hI⟩
      unfold lcGo
      rw [if_pos (by rw [(hs _ _ _ hI).1, (hs _ _ _ hI).2]; rfl)]
    | cons d r ih =>
      intro k acc s hr hk hI
      have hk' : k < it.ds.length := by
        have := congrArg List.length hr
        rw [List.length_drop] at this
        simp at this
        omega
      rw [List.drop_eq_getElem_cons hk'] at hr
      injection hr with h1 h2
      have hd : it.ds[k]? = some d := by rw [List.getElem?_eq_getElem hk', h1]
      obtain ⟨s1, b, s2, e1, e2, ht, hf⟩ := step k acc s d hI hd
      cases b with
      | true =>
        obtain ⟨x, s3, e3, p, z, hI'⟩ := ht rfl
        obtain ⟨acc', s', e4, h4⟩ := ih (k + 1) (acc ++ [x]) s3 h2 hk' hI'
        refine ⟨acc', s', ?_, h4⟩
        unfold lcGo
        rw [if_pos (by rw [(hs _ _ _ hI).1, (hs _ _ _ hI).2]; rfl), e1]
        dsimp only
        rw [e2]
        dsimp only
        rw [if_pos rfl, e3]
        dsimp only
        rw [if_pos ⟨p, z⟩]
        exact e4
      | false =>
        obtain ⟨acc', s', e4, h4⟩ := ih (k + 1) acc s2 h2 hk' (hf rfl)
        refine ⟨acc', s', ?_, h4⟩
        unfold lcGo
        rw [if_pos (by rw [(hs _ _ _ hI).1, (hs _ _ _ hI).2]; rfl), e1]
        dsimp only
        rw [e2]
        dsimp only
        rw [if_neg Bool.false_ne_true]
        exact e4
  exact go it.ds 0 [] ss rfl (Nat.zero_le _) h0
theorem lc_of {tg : Tg} {tt : TV} {te : EV} {vs : List Nat} {it : ItD} {r : R (List D)} (hf : lcGo tg tt te vs it it.ds [] ss = r) (I : Nat → List D → Sl → Prop) (h0 : I 0 [] ss) (hs : ∀ k acc s, I k acc s → purS s vs = true ∧ srcOk it (wipeS s vs) = true)
    (step : ∀ k acc s d, I k acc s → it.ds[k]? = some d → ∃ s1 b s2, tgSet (outL s.length vs) tg d (wipeS s vs) = some s1 ∧ tt s1 = .ok b s2 ∧
      (b = true → ∃ x s3, te s2 = .ok (.val x) s3 ∧ x.pure = true ∧ acc.length < sizeLine ∧ I (k + 1) (acc ++ [x]) s3) ∧ (b = false → I (k + 1) acc s2)) :
    ∃ acc s, r = .ok acc (wipeS s vs) ∧ I it.ds.length acc s := by
  obtain ⟨acc, s, e, h⟩ := lc_inv I h0 hs step
  exact ⟨acc, s, hf.symm.trans e, h⟩
end Dn

set_option Elab.async false
set_option linter.all false
set_option maxRecDepth 100000
set_option maxHeartbeats 4000000
/-! Dn16: simp rules for views, fields, methods, making. -/
namespace Dn
open PySem L2
section
variable {L : List Nat} {ss : Sl}
/-! ### views -/
@[simp] theorem vw_nil : viewS [] = [] := rfl
@[simp] theorem vw_cons {o : Option D} {r : Sl} : viewS (o :: r) = viewO o :: viewS r := rfl
@[simp] theorem vo_none : viewO none = none := rfl
@[simp] theorem vo_some {d : D} : viewO (some d) = some d.view := rfl
@[simp] theorem vi_non : D.view .non = .non := by unfold D.view; rfl
@[simp] theorem vi_bl {b} : D.view (.bl b) = .bl b := by unfold D.view; rfl
@[simp] theorem vi_int {b} : D.view (.int b) = .int b := by unfold D.view; rfl
@[simp] theorem vi_str {b} : D.view (.str b) = .str b := by unfold D.view; rfl
@[simp] theorem vi_tup {b} : D.view (.tup b) = .tup b := by unfold D.view; rfl
@[simp] theorem vi_lst {b} : D.view (.lst b) = .lst b := by unfold D.view; rfl
@[simp] theorem vi_kl {b} : D.view (.kl b) = .kl b := by unfold D.view; rfl
@[simp] theorem vi_vi {c ns ds} : D.view (.vi c ns ds) = .vi c ns ds := by unfold D.view; rfl
theorem view_pure {d : D} (h : d.pure = true) : d.view = d := by cases d <;> first | (unfold D.view; rfl) | cases h
theorem viewL_pure : ∀ {ds : List D}, allPure ds = true → viewL ds = ds
  | [], _ => by unfold viewL; rfl
  | d :: ds, h => by
    obtain ⟨h1, h2⟩ := Bool.and_eq_true_iff.mp (show (d.pure && allPure ds) = true from h)
    unfold viewL
    rw [view_pure h1, viewL_pure h2]
@[simp] theorem vi_ml {ds : List D} (h : allPure ds = true) : D.view (.ml ds) = .kl ds := by unfold D.view; rw [viewL_pure h]
@[simp] theorem cl_non : D.clo .non = true := by unfold D.clo; rfl
@[simp] theorem cl_bl {b} : D.clo (.bl b) = true := by unfold D.clo; rfl
@[simp] theorem cl_int {b} : D.clo (.int b) = true := by unfold D.clo; rfl
@[simp] theorem cl_str {b} : D.clo (.str b) = true := by unfold D.clo; rfl
@[simp] theorem cl_tup {b} : D.clo (.tup b) = cloL b := by rw [D.clo]
@[simp] theorem cl_lst {b} : D.clo (.lst b) = cloL b := by rw [D.clo]
@[simp] theorem cl_ml {b} : D.clo (.ml b) = cloL b := by rw [D.clo]
@[simp] theorem cl_ins {c ns b} : D.clo (.ins c ns b) = cloL b := by rw [D.clo]
@[simp] theorem cll_nil : cloL [] = true := by rw [cloL]
@[simp] theorem cll_cons {d : D} {ds : List D} : cloL (d :: ds) = (d.clo && cloL ds) := by rw [cloL]
theorem cloL_all : ∀ {ds : List D}, (∀ d ∈ ds, d.clo = true) → cloL ds = true
  | [], _ => cll_nil
  | d :: ds, h => by rw [cll_cons, h d List.mem_cons_self, cloL_all fun x hx => h x (List.mem_cons_of_mem _ hx)]; rfl
theorem cloL_append {a b : List D} : cloL (a ++ b) = (cloL a && cloL b) := by
  induction a with
  | nil => simp
  | cons d a ih => rw [List.cons_append, cll_cons, cll_cons, ih, Bool.and_assoc]
def roO (ss : Sl) (r : R Vx) : R Vx := match r with
  | .ok (.val d) _ => if d.clo = true then .ok (.val d) ss else .err
  | .ok (.plc i) _ => .ok (.plc i) ss
  | .exc e _ => if cloL e.ds = true then .exc e ss else .err
  | .err => .err
@[simp] theorem ev_ro {f : EV} : dRO f ss = roO ss (f (viewS ss)) := rfl
@[simp] theorem roO_val {d : D} {s : Sl} : roO ss (.ok (.val d) s) = if d.clo = true then .ok (.val d) ss else .err := rfl
@[simp] theorem roO_plc {i : Nat} {s : Sl} : roO ss (.ok (.plc i) s) = .ok (.plc i) ss := rfl
@[simp] theorem roO_exc {e : Ex} {s : Sl} : roO ss (.exc e s) = if cloL e.ds = true then .exc e ss else .err := rfl
def roT (ss : Sl) (r : R Bool) : R Bool := match r with
  | .ok b _ => .ok b ss
  | .exc e _ => if cloL e.ds = true then .exc e ss else .err
  | .err => .err
@[simp] theorem ev_roT {f : TV} : dROT f ss = roT ss (f (viewS ss)) := rfl
@[simp] theorem roT_ok {b : Bool} {s : Sl} : roT ss (.ok b s) = .ok b ss := rfl
/-! ### fields -/
def flO (fl : List (Str × Str)) (f : Str) (o : Option D) (ss : Sl) : R Vx := match o with
  | some (.vi c ns ds) => if (c, f) ∈ fl then match fIx f ns with
      | some j => match ds[j]? with
        | some d => if d.pure = true then .ok (.val d) ss else .err
        | none => .err
      | none => .err
    else .err
  | _ => .err
@[simp] theorem ev_fld {fl : List (Str × Str)} {f : Str} {g : EV} : dFld fl f g ss = (g ss).bind fun x s1 => flO fl f (x.get s1) s1 := rfl
def sfO (fl : List (Str × Str)) (i : Nat) (f : Str) (d : D) (o : Option (Option D)) (ss : Sl) : RS := match o with
  | some (some (.ins c ns ds)) => if (c, f) ∈ fl ∧ ns.length < 1000 then match fIx f ns with
      | some j => if j < ds.length then .nx (ss.set i (some (.ins c ns (ds.set j d)))) else .err
      | none => .nx (ss.set i (some (.ins c (ns ++ [f]) (ds ++ [d]))))
    else .err
  | _ => .err
@[simp] theorem sv_setF {fl : List (Str × Str)} {i : Nat} {f : Str} {g : EV} : dSetF fl i f g L ss = (g ss).toS fun x s1 => setFX fl i f x s1 := rfl
@[simp] theorem setFX_val {fl : List (Str × Str)} {i : Nat} {f : Str} {d : D} : setFX fl i f (.val d) ss = sfO fl i f d ss[i]? ss := by
  unfold setFX sfO
  cases ss[i]? with
  | none => rfl
  | some o => cases o with
    | none => rfl
    | some d0 => cases d0 <;> rfl
def afR (ss : Sl) (i j : Nat) (es : List D) (o : Option (Option D)) (r : R (List Vx)) : R Vx := match r with
  | .ok [.val d] _ => if d.pure = true ∧ d.clo = true ∧ es.length < sizeLine then .ok (.val .non) (ss.set i (setMl j (es ++ [d]) o)) else .err
  | .exc e _ => if cloL e.ds = true then .exc e ss else .err
  | _ => .err
def afO (fl : List (Str × Str)) (i : Nat) (f : Str) (g : EV) (o : Option (Option D)) (ss : Sl) : R Vx := match fldOf fl f o with
  | some (j, es) => afR ss i j es o (foldA [g] (viewS ss))
  | none => .err
@[simp] theorem ev_appF {fl : List (Str × Str)} {i : Nat} {f : Str} {g : EV} : dAppF fl i f g ss = afO fl i f g ss[i]? ss := rfl
@[simp] theorem afR_val {i j : Nat} {es : List D} {o : Option (Option D)} {d : D} {s : Sl} : afR ss i j es o (.ok [.val d] s) = if d.pure = true ∧ d.clo = true ∧ es.length < sizeLine then .ok (.val .non) (ss.set i (setMl j (es ++ [d]) o)) else .err := rfl
def pfO (fl : List (Str × Str)) (i : Nat) (f : Str) (o : Option (Option D)) (ss : Sl) : R Vx := match fldOf fl f o with
  | some (j, es) => match popD es with
    | some (d, es') => .ok (.val d) (ss.set i (setMl j es' o))
    | none => .err
  | none => .err
@[simp] theorem ev_popF {fl : List (Str × Str)} {i : Nat} {f : Str} : dPopF fl i f ss = pfO fl i f ss[i]? ss := rfl
theorem popD_last {es : List D} {d : D} (h : allPure (es ++ [d]) = true) : popD (es ++ [d]) = some (d, es) := by
  unfold popD
  rw [if_pos h]
  simp
/-! ### methods -/
@[simp] theorem clsAt_ok {x : Vx} : clsAt (.ok x ss) = clsOf (x.get ss) := rfl
def mtE (hot : Bool) (m : Str) (f : EV) (gs : List EV) (c : Str) (o : Option FnE) (ss : Sl) : R Vx := match o with
  | some e => dCall e.ps.length (e.at hot) (foldA (dIns c m f :: gs)) ss
  | none => .err
def mtC (hot : Bool) (fn : List (FKey × FnE)) (m : Str) (f : EV) (gs : List EV) (o : Option Str) (ss : Sl) : R Vx := match o with
  | some c => mtE hot m f gs c (fn.lookup (c, some m)) ss
  | none => .err
@[simp] theorem ev_meth {hot : Bool} {fn : List (FKey × FnE)} {m : Str} {f : EV} {gs : List EV} : dMeth hot fn m f gs ss = mtC hot fn m f gs (clsAt (f ss)) ss := by
  unfold dMeth mtC mtE
  cases clsAt (f ss) <;> rfl
@[simp] theorem mtC_some {hot : Bool} {fn : List (FKey × FnE)} {m c : Str} {f : EV} {gs : List EV} : mtC hot fn m f gs (some c) ss = mtE hot m f gs c (fn.lookup (c, some m)) ss := rfl
@[simp] theorem lk_one {k : FKey} {e : FnE} : List.lookup k [(k, e)] = some e := List.lookup_cons_self
@[simp] theorem mtE_no {m c : Str} {f : EV} {gs : List EV} {e : FnE} : mtE false m f gs c (some e) ss = dCall e.ps.length e.F (foldA (dIns c m f :: gs)) ss := rfl
@[simp] theorem ev_ins {c m : Str} {f : EV} : dIns c m f ss = (f ss).bind fun x s1 => insX c m x s1 := rfl
@[simp] theorem insX_ap {c m : Str} {x : Vx} : insX c m x ss = if isIns c m (x.get ss) = true then .ok x ss else .err := rfl
/-! ### making -/
def mkC (F : FV) (xs : List Vx) (ss : Sl) (r : RF) : R Vx := match r with
  | .ok .non (s :: as) => .ok (.val s) (wb xs as ss)
  | .exc e (_ :: as) => .exc e (wb xs as ss)
  | _ => .err
def mkO (n : Nat) (F : FV) (c : Str) (xs : List Vx) (o : Option (List D)) (ss : Sl) : R Vx := match o with
  | some ds => if ds.length + 1 = n ∧ (plcs xs).Nodup then mkC F xs ss (F (.ins c [] [] :: ds)) else .err
  | none => .err
@[simp] theorem ev_make {n : Nat} {F : FV} {c : Str} {g : AV} : dMake n F c g ss = (g ss).bind fun xs s1 => mkO n F c xs (getAll xs s1) s1 := by
  unfold dMake
  congr
@[simp] theorem mkO_some {n : Nat} {F : FV} {c : Str} {xs : List Vx} {ds : List D} : mkO n F c xs (some ds) ss = if ds.length + 1 = n ∧ (plcs xs).Nodup then mkC F xs ss (F (.ins c [] [] :: ds)) else .err := rfl
@[simp] theorem mkC_ok {F : FV} {xs : List Vx} {s : D} {as : List D} : mkC F xs ss (.ok .non (s :: as)) = .ok (.val s) (wb xs as ss) := rfl
/-! ### isinstance -/
def aI2 (c1 c2 : Cl) (o : Option D) (ss : Sl) : R Vx := match o with
  | some d => match isiD2 d c1 c2 with
    | some b => .ok (.val (.bl b)) ss
    | none => .err
  | none => .err
@[simp] theorem ev_isi2 {c1 c2 : Cl} {f : EV} : dIsi2 c1 c2 f ss = (f ss).bind fun x s1 => aI2 c1 c2 (x.get s1) s1 := rfl
@[simp] theorem aI2_tup {c1 c2 : Cl} {ds : List D} : aI2 c1 c2 (some (.tup ds)) ss = .ok (.val (.bl (isTy .tup c1 || isTy .tup c2))) ss := rfl
@[simp] theorem ev_isX {m : List ((Str × Str) × Bool)} {a dx : Nat} {c T : Str} {f : EV} : dIsX m a dx c T f ss = (f ss).bind fun x s1 => asIX m a dx c T x s1 := rfl
def ixO (o : Option Bool) (ss : Sl) : R Vx := match o with
  | some b => .ok (.val (.bl b)) ss
  | none => .err
@[simp] theorem asIX_val {m : List ((Str × Str) × Bool)} {a dx : Nat} {c T : Str} {ns : List Str} {ds : List D} : asIX m a dx c T (.val (.exo a dx c ns ds)) ss = ixO (m.lookup (c, T)) ss := by
  unfold asIX ixO
  dsimp only
  rw [if_pos ⟨rfl, rfl, rfl⟩] <;> (cases m.lookup (c, T) <;> rfl)
@[simp] theorem ixO_some {b : Bool} : ixO (some b) ss = .ok (.val (.bl b)) ss := rfl
def purO (o : Option (Option D)) : Bool := match o with
  | some (some d) => d.pure
  | _ => true
@[simp] theorem purS_nil : purS ss [] = true := rfl
@[simp] theorem purS_cons {v : Nat} {vs : List Nat} : purS ss (v :: vs) = (purO ss[v]? && purS ss vs) := rfl
@[simp] theorem purO_some {d : D} : purO (some (some d)) = d.pure := rfl
@[simp] theorem purO_none : purO (some none) = true := rfl
/-! ### chains -/
def ch4 (o2 : CmpOp) (c : EV) (y : Vx) (ss : Sl) (b : Option Bool) : R Vx := match b with
  | some true => (c ss).bind fun z s3 => op2 (cmpD' o2) y z s3
  | some false => .ok (.val (.bl false)) ss
  | none => .err
def ch3 (o1 o2 : CmpOp) (c : EV) (p q : Option D) (y : Vx) (ss : Sl) : R Vx := match p, q with
  | some p, some q => ch4 o2 c y ss (cmpD o1 p q)
  | _, _ => .err
@[simp] theorem ev_chain {o1 o2 : CmpOp} {a b c : EV} : dChain o1 o2 a b c ss = (a ss).bind fun x s1 => (b s1).bind fun y s2 => ch3 o1 o2 c (x.get s2) (y.get s2) y s2 := by
  unfold dChain
  congr 1
  funext x s1
  congr 1
  funext y s2
  unfold op3 get2 ch3 ch4
  cases x.get s2 with
  | none => rfl
  | some p => cases y.get s2 <;> rfl
@[simp] theorem ch3_some {o1 o2 : CmpOp} {c : EV} {p q : D} {y : Vx} : ch3 o1 o2 c (some p) (some q) y ss = ch4 o2 c y ss (cmpD o1 p q) := rfl
@[simp] theorem ch4_some {o2 : CmpOp} {c : EV} {y : Vx} {b : Bool} : ch4 o2 c y ss (some b) = if b = true then (c ss).bind fun z s3 => op2 (cmpD' o2) y z s3 else .ok (.val (.bl false)) ss := by cases b <;> rfl
@[simp] theorem cd_lt {i j : Int} : cmpD .Lt (.int i) (.int j) = some (decide (i < j)) := rfl
@[simp] theorem cd_le {i j : Int} : cmpD .LtE (.int i) (.int j) = some (decide (i ≤ j)) := rfl
/-! ### more comparisons, builtins -/
@[simp] theorem cm_isN {d : D} : cmpD' .Is d .non = some (.bl (isNonD d)) := rfl
@[simp] theorem cm_isNn {d : D} : cmpD' .IsNot d .non = some (.bl (!isNonD d)) := rfl
@[simp] theorem cm_isB {d : D} {b : Bool} : cmpD' .Is d (.bl b) = some (.bl (isBlD d b)) := rfl
@[simp] theorem nn_non : isNonD .non = true := rfl
@[simp] theorem nn_bl {b} : isNonD (.bl b) = false := rfl
@[simp] theorem nn_int {b} : isNonD (.int b) = false := rfl
@[simp] theorem nn_str {b} : isNonD (.str b) = false := rfl
@[simp] theorem nn_tup {b} : isNonD (.tup b) = false := rfl
@[simp] theorem nn_ml {b} : isNonD (.ml b) = false := rfl
@[simp] theorem nn_lst {b} : isNonD (.lst b) = false := rfl
@[simp] theorem nn_kl {b} : isNonD (.kl b) = false := rfl
@[simp] theorem ib_non {c} : isBlD .non c = false := rfl
@[simp] theorem ib_bl {b c} : isBlD (.bl b) c = decide (b = c) := rfl
@[simp] theorem ib_int {b c} : isBlD (.int b) c = false := rfl
@[simp] theorem ib_str {b c} : isBlD (.str b) c = false := rfl
@[simp] theorem ib_tup {b c} : isBlD (.tup b) c = false := rfl
@[simp] theorem bl_tuM {ds : List D} : bltD .tuple [.ml ds] = if allPure ds = true then some (.tup ds) else none := rfl
@[simp] theorem bl_tuL {ds : List D} : bltD .tuple [.lst ds] = if allPure ds = true then some (.tup ds) else none := rfl
@[simp] theorem bl_tuK {ds : List D} : bltD .tuple [.kl ds] = if allPure ds = true then some (.tup ds) else none := rfl
@[simp] theorem cm_neb {i j : Bool} : cmpD' .NotEq (.bl i) (.bl j) = some (.bl (!decide (i = j))) := rfl
theorem ints_map : ∀ l : List Int, intsD (l.map D.int) = some l
  | [] => rfl
  | i :: l => by
    show (match intsD (l.map D.int) with
      | some ns => some (i :: ns)
      | none => none) = _
    rw [ints_map l]
theorem lt_tup (a b : List Int) : cmpD' .Lt (.tup (a.map .int)) (.tup (b.map .int)) = some (.bl (HT.lexLt a b)) := by
  unfold cmpD' cmpD ltD
  dsimp only
  rw [ints_map, ints_map]; rfl
theorem gt_tup (a b : List Int) : cmpD' .Gt (.tup (a.map .int)) (.tup (b.map .int)) = some (.bl (HT.lexLt b a)) := by
  unfold cmpD' cmpD gtD
  dsimp only
  rw [ints_map, ints_map]; rfl
theorem eq_nil : cmpD' .Eq (.ml []) (.ml []) = some (.bl true) := by rfl
end
end Dn

set_option Elab.async false
set_option linter.all false
set_option maxRecDepth 100000
set_option maxHeartbeats 4000000
/-! Dn17: simp rules for tuples that own, views of them; equality of data. -/
namespace Dn
open PySem L2
/-! ### loops that may end a def -/
def stops : RS → Bool
  | .rt _ _ => true
  | .exc _ _ => true
  | _ => false
theorem for_or {L : List Nat} {ss : Sl} {tg : Tg} {g : SV} {it : ItD} (I : Nat → Sl → Prop) (Z : Nat → RS → Prop) (h0 : I 0 ss) (hs : ∀ k s, I k s → srcOk it s = true)
    (step : ∀ k s d, I k s → it.ds[k]? = some d → ∃ s1, tgSet L tg d s = some s1 ∧ ((∃ s2, (g L s1 = .nx s2 ∨ g L s1 = .ct s2) ∧ I (k + 1) s2) ∨ (stops (g L s1) = true ∧ Z k (g L s1)))) :
    (∃ s', forGo tg g it L it.ds ss = .nx s' ∧ I it.ds.length s') ∨ ∃ k, k < it.ds.length ∧ Z k (forGo tg g it L it.ds ss) := by
  have go : ∀ (r : List D) (k : Nat) (s : Sl), it.ds.drop k = r → k ≤ it.ds.length → I k s → (∃ s', forGo tg g it L r s = .nx s' ∧ I it.ds.length s') ∨ ∃ k, k < it.ds.length ∧ Z k (forGo tg g it L r s) := by
    intro r
    induction r with
    | nil =>
      intro k s hr hk hI
      have : k = it.ds.length := by
        have := congrArg List.length hr
        rw [List.length_drop] at this
        simp at this
        omega
      subst this
      refine .inl ⟨s, ?_, hI⟩
      unfold forGo
      rw [if_pos (hs _ _ hI)]
    | cons d r ih =>
      intro k s hr hk hI
      have hk' : k < it.ds.length := by
        have := congrArg List.length hr
        rw [List.length_drop] at this
        simp at this
        omega
      rw [List.drop_eq_getElem_cons hk'] at hr
      injection hr with h1 h2
      have hd : it.ds[k]? = some d := by rw [List.getElem?_eq_getElem hk', h1]
      obtain ⟨s1, e1, h⟩ := step k s d hI hd
      have ef : forGo tg g it L (d :: r) s = (match g L s1 with
          | .nx s2 => forGo tg g it L r s2
          | .ct s2 => forGo tg g it L r s2
          | .bk s2 => .nx s2
          | o => o) := by
        conv => lhs; unfold forGo
        rw [if_pos (hs _ _ hI), e1]
        all_goals (dsimp only)
        all_goals (cases g L s1 <;> rfl)
      rcases h with ⟨s2, e2, h2'⟩ | ⟨e2, hz⟩
      · rcases ih (k + 1) s2 h2 hk' h2' with ⟨s', e3, h3⟩ | ⟨k', hk3, h3⟩
        · refine .inl ⟨s', ?_, h3⟩
          rw [ef]
          rcases e2 with e2 | e2 <;> (rw [e2]; exact e3)
        · refine .inr ⟨k', hk3, ?_⟩
          rw [ef]
          rcases e2 with e2 | e2 <;> (rw [e2]; exact h3)
      · refine .inr ⟨k, hk', ?_⟩
        rw [ef]
        cases q : g L s1 with
        | rt d0 s0 => rw [q] at hz; exact hz
        | exc e0 s0 => rw [q] at hz; exact hz
        | _ => rw [q] at e2; cases e2
  exact go it.ds 0 ss rfl (Nat.zero_le _) h0
theorem for_or_of {L : List Nat} {ss : Sl} {tg : Tg} {g : SV} {it : ItD} {r : RS} (hf : forGo tg g it L it.ds ss = r) (I : Nat → Sl → Prop) (Z : Nat → RS → Prop) (h0 : I 0 ss) (hs : ∀ k s, I k s → srcOk it s = true)
    (step : ∀ k s d, I k s → it.ds[k]? = some d → ∃ s1, tgSet L tg d s = some s1 ∧ ((∃ s2, (g L s1 = .nx s2 ∨ g L s1 = .ct s2) ∧ I (k + 1) s2) ∨ (stops (g L s1) = true ∧ Z k (g L s1)))) :
    (∃ s', r = .nx s' ∧ I it.ds.length s') ∨ ∃ k, k < it.ds.length ∧ Z k r := by
  subst hf
  exact for_or I Z h0 hs step
section
variable {L : List Nat} {ss : Sl}
@[simp] theorem vi_mt {ds : List D} : D.view (.mt ds) = .tup (viewL ds) := by unfold D.view; rfl
@[simp] theorem vi_rf {a} : D.view (.rf a) = .rf a := by unfold D.view; rfl
@[simp] theorem vl_nil : viewL [] = [] := by unfold viewL; rfl
@[simp] theorem vl_cons {d : D} {ds : List D} : viewL (d :: ds) = d.view :: viewL ds := by rw [viewL]
@[simp] theorem cl_mt {b} : D.clo (.mt b) = cloL b := by rw [D.clo]
@[simp] theorem cl_rf {a} : D.clo (.rf a) = true := by unfold D.clo; rfl
@[simp] theorem frz_mt {b} : frz (.val (.mt b)) = .val (.mt b) := rfl
@[simp] theorem frz_ins {c ns b} : frz (.val (.ins c ns b)) = .val (.ins c ns b) := rfl
@[simp] theorem frz_rf {a} : frz (.val (.rf a)) = .val (.rf a) := rfl
@[simp] theorem nn_mt {b} : isNonD (.mt b) = false := rfl
@[simp] theorem nn_ins {c ns b} : isNonD (.ins c ns b) = false := rfl
@[simp] theorem nn_vi {c ns b} : isNonD (.vi c ns b) = false := rfl
@[simp] theorem bl_sort {a b : Bool} : bltD .sorted [.ml [.bl a, .bl b]] = some (.ml [.bl (a && b), .bl (a || b)]) := rfl
theorem log_lt {i : Int} (h : i.natAbs < 2 ^ 64) : i.natAbs.log2 < 1920 := by
  by_cases z : i.natAbs = 0
  · rw [z]; decide
  · have := (Nat.log2_lt z).mpr h
    omega
theorem bl_str {i : Int} (h : i.natAbs < 2 ^ 64) : bltD .str [.int i] = some (.str (toString i)) := if_pos (log_lt h)
theorem eq_two_bl : ∀ a b : Bool, cmpD' .Eq (.ml [.bl a, .bl b]) (.ml [.bl false, .bl true]) = some (.bl (!a && b)) := by
  intro a b
  cases a <;> cases b <;> rfl
/-! ### data -/
/-- plain data to a depth -/
def dt : Nat → D → Prop
  | 0, _ => False
  | m + 1, d => d = .non ∨ (∃ b, d = .bl b) ∨ (∃ i, d = .int i) ∨ (∃ s, d = .str s ∧ PyData.strOk s = true) ∨ ∃ ds, (d = .tup ds ∨ d = .lst ds) ∧ ds.length < 1000 ∧ ∀ x ∈ ds, dt m x
theorem dt_pure {m : Nat} {d : D} (h : dt m d) : d.pure = true := by
  cases m with
  | zero => exact h.elim
  | succ m => rcases h with h | ⟨i, h⟩ | ⟨i, h⟩ | ⟨s, h, _⟩ | ⟨ds, h | h, _⟩ <;> (subst h; rfl)
theorem dt_mono : ∀ {m k : Nat} {d : D}, m ≤ k → dt m d → dt k d
  | 0, _, _, _, h => h.elim
  | m + 1, 0, _, h, _ => by omega
  | m + 1, k + 1, d, hk, h => by
    rcases h with h | h | h | h | ⟨ds, h, hl, hx⟩
    · exact .inl h
    · exact .inr (.inl h)
    · exact .inr (.inr (.inl h))
    · exact .inr (.inr (.inr (.inl h)))
    · exact .inr (.inr (.inr (.inr ⟨ds, h, hl, fun x hm => dt_mono (by omega) (hx x hm)⟩)))
theorem dt_clo : ∀ {m : Nat} {d : D}, dt m d → d.clo = true
  | 0, _, h => h.elim
  | m + 1, d, h => by
    rcases h with h | ⟨b, h⟩ | ⟨i, h⟩ | ⟨s, h, _⟩ | ⟨ds, h, hl, hx⟩
    · subst h; simp
    · subst h; simp
    · subst h; simp
    · subst h; simp
    · have := cloL_all fun x hm => dt_clo (hx x hm)
      rcases h with h | h <;> (subst h; simpa using this)
theorem dt_view {m : Nat} {d : D} (h : dt m d) : d.view = d := view_pure (dt_pure h)
theorem toPyL_cons {d : D} {ds : List D} : toPyL (d :: ds) = (match toPy d, toPyL ds with
    | some p, some ps => some (p :: ps)
    | _, _ => none) := by
  first
  | (conv => lhs; unfold toPyL
     cases toPy d <;> cases toPyL ds <;> rfl)
  | (conv => lhs; unfold toPyL)
theorem dt_py : ∀ {m : Nat} {d : D}, dt m d → ∃ p, toPy d = some p ∧ p.canLay0 = true ∧ p.depth ≤ m
  | 0, _, h => h.elim
  | m + 1, d, h => by
    rcases h with h | ⟨b, h⟩ | ⟨i, h⟩ | ⟨s, h, hs⟩ | ⟨ds, h, hl, hx⟩
    · subst h; exact ⟨.none, by unfold toPy; rfl, by unfold PyData.canLay0; rfl, by unfold PyData.depth; omega⟩
    · subst h; exact ⟨.bool b, by unfold toPy; rfl, by unfold PyData.canLay0; rfl, by unfold PyData.depth; omega⟩
    · subst h; exact ⟨.int i, by unfold toPy; rfl, by unfold PyData.canLay0; rfl, by unfold PyData.depth; omega⟩
    · subst h; exact ⟨.str s, by unfold toPy; rfl, by unfold PyData.canLay0; exact hs, by unfold PyData.depth; omega⟩
    · have key : ∀ ds : List D, (∀ x ∈ ds, dt m x) → ∃ ps, toPyL ds = some ps ∧ PyData.canLayAll0 ps = true ∧ PyData.depthAll ps ≤ m := by
        intro ds
        induction ds with
        | nil => intro _; exact ⟨[], by unfold toPyL; rfl, by unfold PyData.canLayAll0; rfl, by unfold PyData.depthAll; omega⟩
        | cons x ds ih =>
          intro hx
          obtain ⟨ps, e1, c1, d1⟩ := ih fun y hy => hx y (List.mem_cons_of_mem _ hy)
          obtain ⟨p, e2, c2, d2⟩ := dt_py (hx x List.mem_cons_self)
          refine ⟨p :: ps, by rw [toPyL_cons, e2, e1], by unfold PyData.canLayAll0; rw [c2, c1]; rfl, by unfold PyData.depthAll; omega⟩
      obtain ⟨ps, e1, c1, d1⟩ := key ds hx
      rcases h with h | h
      · subst h; exact ⟨.tuple ps, by unfold toPy; rw [e1], by unfold PyData.canLay0; exact c1, by unfold PyData.depth; omega⟩
      · subst h; exact ⟨.list ps, by unfold toPy; rw [e1], by unfold PyData.canLay0; exact c1, by unfold PyData.depth; omega⟩
theorem dt_shaped {m : Nat} {d : D} {p : PyData} (h : dt m d) (hm : m ≤ 64) (e : toPy d = some p) : SeqAt.shaped p = true := by
  obtain ⟨q, e1, c, dp⟩ := dt_py h
  rw [e] at e1; cases e1
  unfold SeqAt.shaped
  rw [c, Bool.true_and]
  exact decide_eq_true (by omega)
theorem toPyL_len : ∀ {ds : List D} {ps : List PyData}, toPyL ds = some ps → ps.isEmpty = ds.isEmpty
  | [], ps, e => by unfold toPyL at e; cases e; rfl
  | d :: ds, ps, e => by
    rw [toPyL_cons] at e
    split at e
    · cases e; rfl
    · cases e
theorem eqvAll_nil {ps : List PyData} : PyData.eqvAll ps [] = ps.isEmpty := by cases ps <;> (unfold PyData.eqvAll; rfl)
/-- d == () -/
theorem eq_tnil {m : Nat} {ds : List D} (h : dt m (.tup ds)) (hm : m ≤ 64) : eqD (.tup ds) (.tup []) = some ds.isEmpty := by
  obtain ⟨p, e, _, _⟩ := dt_py h
  have hs := dt_shaped h hm e
  have e2 : toPy (.tup []) = some (.tuple []) := by unfold toPy toPyL; rfl
  have hs2 : SeqAt.shaped (.tuple []) = true := by decide +kernel
  show (match toPy (.tup ds), toPy (.tup []) with
    | some p, some q => if (SeqAt.shaped p && SeqAt.shaped q) = true then some (PyData.eqv p q) else none
    | _, _ => none) = _
  rw [e, e2]
  dsimp only
  rw [hs, hs2, Bool.and_self, if_pos rfl]
  unfold toPy at e
  split at e
  · rename_i ps q
    cases e
    show some (PyData.eqv (.tuple ps) (.tuple [])) = _
    unfold PyData.eqv
    rw [eqvAll_nil, toPyL_len q]
  · cases e
/-- a list of such == [] -/
theorem eq_mnil {m : Nat} {ds : List D} (h : ∀ x ∈ ds, dt m x) (hm : m ≤ 60) (hl : ds.length < 1000) : eqD (.ml ds) (.ml []) = some ds.isEmpty := by
  have ht : dt (m + 1) (.lst ds) := .inr (.inr (.inr (.inr ⟨ds, .inr rfl, hl, h⟩)))
  obtain ⟨p, e, _, _⟩ := dt_py ht
  have hs := dt_shaped ht (by omega) e
  have e2 : toPy (.ml []) = some (.list []) := by unfold toPy toPyL; rfl
  have e3 : toPy (.ml ds) = toPy (.lst ds) := by unfold toPy; rfl
  have hs2 : SeqAt.shaped (.list []) = true := by decide +kernel
  show (match toPy (.ml ds), toPy (.ml []) with
    | some p, some q => if (SeqAt.shaped p && SeqAt.shaped q) = true then some (PyData.eqv p q) else none
    | _, _ => none) = _
  rw [e3, e, e2]
  dsimp only
  rw [hs, hs2, Bool.and_self, if_pos rfl]
  unfold toPy at e
  split at e
  · rename_i ps q
    cases e
    show some (PyData.eqv (.list ps) (.list [])) = _
    unfold PyData.eqv
    rw [eqvAll_nil, toPyL_len q]
  · cases e
/-! ### data without truth values: equal exactly if the same -/
def ps : Nat → D → Prop
  | 0, _ => False
  | m + 1, d => d = .non ∨ (∃ i, d = .int i) ∨ ∃ ds, d = .tup ds ∧ ds.length < 1000 ∧ ∀ x ∈ ds, ps m x
theorem ps_dt : ∀ {m : Nat} {d : D}, ps m d → dt m d
  | 0, _, h => h.elim
  | m + 1, d, h => by
    rcases h with h | h | ⟨ds, h, hl, hx⟩
    · exact .inl h
    · exact .inr (.inr (.inl h))
    · exact .inr (.inr (.inr (.inr ⟨ds, .inl h, hl, fun x hm => ps_dt (hx x hm)⟩)))
theorem ps_mono : ∀ {m k : Nat} {d : D}, m ≤ k → ps m d → ps k d
  | 0, _, _, _, h => h.elim
  | m + 1, 0, _, h, _ => by omega
  | m + 1, k + 1, d, hk, h => by
    rcases h with h | h | ⟨ds, h, hl, hx⟩
    · exact .inl h
    · exact .inr (.inl h)
    · exact .inr (.inr ⟨ds, h, hl, fun x hm => ps_mono (by omega) (hx x hm)⟩)
theorem ps_eqv : ∀ {m : Nat} {a b : D} {p q : PyData}, ps m a → ps m b → toPy a = some p → toPy b = some q → (PyData.eqv p q = true ↔ a = b)
  | 0, _, _, _, _, h, _, _, _ => h.elim
  | m + 1, a, b, p, q, ha, hb, ea, eb => by
    have key : ∀ (ds es : List D) (us vs : List PyData), (∀ x ∈ ds, ps m x) → (∀ x ∈ es, ps m x) → toPyL ds = some us → toPyL es = some vs → (PyData.eqvAll us vs = true ↔ ds = es) := by
      intro ds
      induction ds with
      | nil =>
        intro es us vs _ _ e1 e2
        unfold toPyL at e1; cases e1
        cases es with
        | nil => unfold toPyL at e2; cases e2; unfold PyData.eqvAll; simp
        | cons y es =>
          rw [toPyL_cons] at e2
          split at e2
          · cases e2; unfold PyData.eqvAll; simp
          · cases e2
      | cons x ds ih =>
        intro es us vs h1 h2 e1 e2
        rw [toPyL_cons] at e1
        split at e1
        rotate_left
        · cases e1
        rename_i u us' x1 x2
        cases e1
        cases es with
        | nil => unfold toPyL at e2; cases e2; unfold PyData.eqvAll; simp
        | cons y es =>
          rw [toPyL_cons] at e2
          split at e2
          rotate_left
          · cases e2
          rename_i w ws y1 y2
          cases e2
          unfold PyData.eqvAll
          rw [Bool.and_eq_true_iff, ps_eqv (h1 x List.mem_cons_self) (h2 y List.mem_cons_self) x1 y1, ih es us' ws (fun z hz => h1 z (List.mem_cons_of_mem _ hz)) (fun z hz => h2 z (List.mem_cons_of_mem _ hz)) x2 y2]
          simp
    rcases ha with ha | ⟨i, ha⟩ | ⟨ds, ha, _, h1⟩
    · subst ha
      unfold toPy at ea; cases ea
      rcases hb with hb | ⟨j, hb⟩ | ⟨es, hb, _, h2⟩
      · subst hb; unfold toPy at eb; cases eb; unfold PyData.eqv; simp
      · subst hb; unfold toPy at eb; cases eb; unfold PyData.eqv; simp
      · subst hb; unfold toPy at eb
        split at eb
        · cases eb; unfold PyData.eqv; simp
        · cases eb
    · subst ha
      unfold toPy at ea; cases ea
      rcases hb with hb | ⟨j, hb⟩ | ⟨es, hb, _, h2⟩
      · subst hb; unfold toPy at eb; cases eb; unfold PyData.eqv; simp
      · subst hb; unfold toPy at eb; cases eb; unfold PyData.eqv; simp
      · subst hb; unfold toPy at eb
        split at eb
        · cases eb; unfold PyData.eqv; simp
        · cases eb
    · subst ha
      unfold toPy at ea
      split at ea
      rotate_left
      · cases ea
      rename_i us q1
      cases ea
      rcases hb with hb | ⟨j, hb⟩ | ⟨es, hb, _, h2⟩
      · subst hb; unfold toPy at eb; cases eb; unfold PyData.eqv; simp
      · subst hb; unfold toPy at eb; cases eb; unfold PyData.eqv; simp
      · subst hb; unfold toPy at eb
        split at eb
        rotate_left
        · cases eb
        rename_i vs q2
        cases eb
        unfold PyData.eqv
        rw [key ds es us vs h1 h2 q1 q2]
        simp
open Classical in
theorem eq_ps {m : Nat} {as bs : List D} (ha : ps m (.tup as)) (hb : ps m (.tup bs)) (hm : m ≤ 64) : eqD (.tup as) (.tup bs) = some (decide (as = bs)) := by
  obtain ⟨p, e, _, _⟩ := dt_py (ps_dt ha)
  obtain ⟨q, e', _, _⟩ := dt_py (ps_dt hb)
  have hs := dt_shaped (ps_dt ha) hm e
  have hs2 := dt_shaped (ps_dt hb) hm e'
  show (match toPy (.tup as), toPy (.tup bs) with
    | some p, some q => if (SeqAt.shaped p && SeqAt.shaped q) = true then some (PyData.eqv p q) else none
    | _, _ => none) = _
  rw [e, e']
  dsimp only
  rw [hs, hs2, Bool.and_self, if_pos rfl]
  have := ps_eqv ha hb e e'
  congr 1
  by_cases z : as = bs
  · rw [decide_eq_true z, this.mpr (by rw [z])]
  · rw [decide_eq_false z]
    cases w : PyData.eqv p q with
    | false => rfl
    | true => exact absurd (by have := this.mp w; injection this) z
end
end Dn

set_option Elab.async false
set_option linter.all false
set_option maxRecDepth 100000
set_option maxHeartbeats 4000000
/-! K06m: numbers, their order, the stack of rows against the whole list: plain. -/
namespace K06
open PySem L2 Dn
abbrev Nu := Option (List Int)
/-- a is below b -/
def bel : Nu → Nu → Bool
  | none, _ => false
  | some _, none => true
  | some a, some b => HT.lexLt a b
theorem lex_irr : ∀ a : List Int, HT.lexLt a a = false
  | [] => rfl
  | x :: xs => by rw [HT.lexLt_cons, if_pos rfl]; exact lex_irr xs
theorem lex_tri : ∀ a b : List Int, HT.lexLt a b = false → HT.lexLt b a = false → a = b
  | [], [], _, _ => rfl
  | [], y :: ys, h, _ => by rw [HT.lexLt_nil_cons] at h; cases h
  | x :: xs, [], _, h => by rw [HT.lexLt_nil_cons] at h; cases h
  | x :: xs, y :: ys, h1, h2 => by
    rw [HT.lexLt_cons] at h1 h2
    by_cases e : x = y
    · subst e
      rw [if_pos rfl] at h1 h2
      rw [lex_tri xs ys h1 h2]
    · rw [if_neg e] at h1
      rw [if_neg fun z => e z.symm] at h2
      have h1 := of_decide_eq_false h1
      have h2 := of_decide_eq_false h2
      omega
theorem lex_trans : ∀ a b c : List Int, HT.lexLt a b = true → HT.lexLt b c = true → HT.lexLt a c = true
  | [], [], c, h, _ => by cases h
  | [], y :: ys, [], _, h => by cases h
  | [], y :: ys, z :: zs, _, _ => rfl
  | x :: xs, [], c, h, _ => by cases h
  | x :: xs, y :: ys, [], _, h => by cases h
  | x :: xs, y :: ys, z :: zs, h1, h2 => by
    rw [HT.lexLt_cons] at h1 h2 ⊢
    by_cases e1 : x = y
    · subst e1
      rw [if_pos rfl] at h1
      by_cases e2 : x = z
      · subst e2
        rw [if_pos rfl] at h2 ⊢
        exact lex_trans xs ys zs h1 h2
      · rw [if_neg e2] at h2 ⊢
        exact h2
    · rw [if_neg e1] at h1
      have h1 := of_decide_eq_true h1
      by_cases e2 : y = z
      · subst e2
        rw [if_neg e1]
        exact decide_eq_true h1
      · rw [if_neg e2] at h2
        have h2 := of_decide_eq_true h2
        rw [if_neg (by omega)]
        exact decide_eq_true (by omega)
theorem bel_irr (a : Nu) : bel a a = false := by
  cases a with
  | none => rfl
  | some a => exact lex_irr a
theorem bel_trans {a b c : Nu} (h1 : bel a b = true) (h2 : bel b c = true) : bel a c = true := by
  cases a with
  | none => cases h1
  | some a =>
    cases b with
    | none => cases h2
    | some b =>
      cases c with
      | none => rfl
      | some c => exact lex_trans a b c h1 h2
theorem bel_tri {a b : Nu} (h1 : bel a b = false) (h2 : bel b a = false) : a = b := by
  cases a with
  | none =>
    cases b with
    | none => rfl
    | some b => cases h2
  | some a =>
    cases b with
    | none => cases h1
    | some b => rw [lex_tri a b h1 h2]
theorem bel_of {a b c : Nu} (h1 : bel a b = true) (h2 : bel c b = false) : bel a c = true := by
  cases h : bel a c with
  | true => rfl
  | false =>
    cases h' : bel c a with
    | true => rw [bel_trans h' h1] at h2; cases h2
    | false => rw [bel_tri h h'] at h1; rw [h1] at h2; cases h2

abbrev Rp := Int × Nu
/-- what counts of the reports: each that is below all behind it, from serial k on -/
def falls (k : Int) : List Rp → List Rp
  | [] => []
  | r :: rs => if k ≤ r.1 ∧ rs.all (fun q => bel r.2 q.2) = true then r :: falls k rs else falls k rs
/-- a report pops what is not below it -/
def popB (n : Nu) (st : List Rp) : List Rp := st.filter fun q => bel q.2 n
theorem falls_sub {k : Int} : ∀ {rs : List Rp} {q : Rp}, q ∈ falls k rs → q ∈ rs ∧ k ≤ q.1
  | [], q, h => nomatch h
  | r :: rs, q, h => by
    unfold falls at h
    split at h
    · rename_i c
      rcases List.mem_cons.mp h with h | h
      · subst h; exact ⟨List.mem_cons_self, c.1⟩
      · exact ⟨List.mem_cons_of_mem _ (falls_sub h).1, (falls_sub h).2⟩
    · exact ⟨List.mem_cons_of_mem _ (falls_sub h).1, (falls_sub h).2⟩
theorem falls_add {k : Int} {x : Rp} (hx : k ≤ x.1) : ∀ rs : List Rp, falls k (rs ++ [x]) = popB x.2 (falls k rs) ++ [x]
  | [] => by simp [falls, popB, hx]
  | r :: rs => by
    rw [List.cons_append]
    unfold falls
    rw [falls_add hx rs]
    by_cases c : k ≤ r.1 ∧ rs.all (fun q => bel r.2 q.2) = true
    · rw [if_pos c]
      by_cases b : bel r.2 x.2 = true
      · rw [if_pos ⟨c.1, by rw [List.all_append, c.2]; simp [b]⟩]
        show r :: _ = List.filter _ (r :: _) ++ _
        rw [List.filter_cons, if_pos b]
        rfl
      · rw [if_neg (fun z => b (by have := z.2; rw [List.all_append] at this; simp at this; exact this.2))]
        show _ = List.filter _ (r :: _) ++ _
        rw [List.filter_cons, if_neg b]
        rfl
    · rw [if_neg c, if_neg (fun z => c ⟨z.1, by have := z.2; rw [List.all_append] at this; exact (Bool.and_eq_true_iff.mp this).1⟩)]
theorem falls_cut {k j : Int} (h : j ≤ k) : ∀ rs : List Rp, falls k rs = (falls j rs).filter fun q => decide (k ≤ q.1)
  | [] => rfl
  | r :: rs => by
    unfold falls
    rw [falls_cut h rs]
    by_cases a : rs.all (fun q => bel r.2 q.2) = true
    · by_cases c : j ≤ r.1
      · rw [if_pos (show j ≤ r.1 ∧ _ from ⟨c, a⟩), List.filter_cons]
        by_cases d : k ≤ r.1
        · rw [if_pos ⟨d, a⟩, if_pos (decide_eq_true d)]
        · rw [if_neg (fun z => d z.1), if_neg (fun z => d (of_decide_eq_true z))]
      · rw [if_neg (fun z => c (Int.le_trans h z.1)), if_neg (fun z => c z.1)]
    · rw [if_neg (fun z => a z.2), if_neg (fun z => a z.2)]
/-- each of the stack is below all behind it -/
def chain : List Rp → Prop
  | [] => True
  | r :: rs => (∀ q ∈ rs, bel r.2 q.2 = true) ∧ chain rs
theorem falls_chain {k : Int} : ∀ rs : List Rp, chain (falls k rs)
  | [] => trivial
  | r :: rs => by
    unfold falls
    split
    · rename_i c
      exact ⟨fun q hq => List.all_eq_true.mp c.2 q (falls_sub hq).1, falls_chain rs⟩
    · exact falls_chain rs
theorem chain_append : ∀ {a b : List Rp}, chain (a ++ b) → chain a ∧ chain b ∧ ∀ q ∈ a, ∀ p ∈ b, bel q.2 p.2 = true
  | [], b, h => ⟨trivial, h, fun q z => nomatch z⟩
  | r :: a, b, h => by
    obtain ⟨h1, h2⟩ := h
    obtain ⟨h3, h4, h5⟩ := chain_append h2
    refine ⟨⟨fun q hq => h1 q (List.mem_append_left _ hq), h3⟩, h4, fun q hq p hp => ?_⟩
    rcases List.mem_cons.mp hq with e | hq
    · subst e; exact h1 p (List.mem_append_right _ hp)
    · exact h5 q hq p hp
/-- popping from behind is the filter -/
theorem pop_keep {n : Nu} {st : List Rp} {q : Rp} (h : chain (st ++ [q])) (b : bel q.2 n = true) : popB n (st ++ [q]) = st ++ [q] := by
  unfold popB
  rw [List.filter_eq_self]
  intro p hp
  rcases List.mem_append.mp hp with hp | hp
  · exact bel_trans ((chain_append h).2.2 p hp q List.mem_cons_self) b
  · have : p = q := by simpa using hp
    rw [this]; exact b
theorem pop_drop {n : Nu} {st : List Rp} {q : Rp} (b : bel q.2 n = false) : popB n (st ++ [q]) = popB n st := by
  unfold popB
  rw [List.filter_append]
  simp [b]
/-! ### the least -/
/-- the least number from serial k on; none: no number -/
def lstG (k : Int) : List Rp → Nu → Nu
  | [], f => f
  | r :: rs, f => lstG k rs (if k ≤ r.1 ∧ bel r.2 f = true then r.2 else f)
/-- the serials rise -/
def inc : List Rp → Prop
  | [] => True
  | r :: rs => (∀ q ∈ rs, r.1 < q.1) ∧ inc rs
theorem inc_add {x : Rp} : ∀ {rs : List Rp}, inc rs → (∀ q ∈ rs, q.1 < x.1) → inc (rs ++ [x])
  | [], _, _ => ⟨fun q h => (nomatch h), trivial⟩
  | r :: rs, h, hx => by
    refine ⟨fun q hq => ?_, inc_add h.2 fun q hq => hx q (List.mem_cons_of_mem _ hq)⟩
    rcases List.mem_append.mp hq with hq | hq
    · exact h.1 q hq
    · have : q = x := by simpa using hq
      rw [this]; exact hx r List.mem_cons_self
theorem falls_head {k : Int} {n : Nu} : ∀ {rs : List Rp}, (∀ q ∈ rs, k ≤ q.1) → (∃ p ∈ rs, bel n p.2 = false) → ∃ q t, falls k rs = q :: t ∧ bel n q.2 = false
  | [], _, ⟨p, hp, _⟩ => nomatch hp
  | s :: rs, hk, ⟨p, hp, hb⟩ => by
    have hk' : ∀ q ∈ rs, k ≤ q.1 := fun q hq => hk q (List.mem_cons_of_mem _ hq)
    unfold falls
    by_cases a : rs.all (fun q => bel s.2 q.2) = true
    · rw [if_pos (show k ≤ s.1 ∧ rs.all (fun q => bel s.2 q.2) = true from ⟨hk s List.mem_cons_self, a⟩)]
      refine ⟨s, _, rfl, ?_⟩
      rcases List.mem_cons.mp hp with e | hp
      · subst e; exact hb
      · have := List.all_eq_true.mp a p hp
        cases z : bel n s.2 with
        | false => rfl
        | true => rw [bel_trans z this] at hb; cases hb
    · rw [if_neg (fun z => a z.2)]
      rcases List.mem_cons.mp hp with e | hp
      · subst e
        obtain ⟨p', hp', hb'⟩ : ∃ p' ∈ rs, bel p.2 p'.2 = false := by
          have a' : rs.all (fun q => bel p.2 q.2) = false := by simpa using a
          rw [List.all_eq_false] at a'
          obtain ⟨x, hx, h⟩ := a'
          exact ⟨x, hx, by simpa using h⟩
        refine falls_head hk' ⟨p', hp', ?_⟩
        cases z : bel n p'.2 with
        | false => rfl
        | true => rw [bel_of z hb'] at hb; cases hb
      · exact falls_head hk' ⟨p, hp, hb⟩
/-- first of the falls, or a number that is below -/
theorem lst_falls {k : Int} : ∀ (rs : List Rp) (f : Nu), inc rs → lstG k rs f = (match falls k rs with
    | [] => f
    | q :: _ => if bel q.2 f = true then q.2 else f)
  | [], f, _ => rfl
  | r :: rs, f, hi => by
    unfold lstG falls
    rw [lst_falls rs _ hi.2]
    by_cases c : k ≤ r.1
    · have hk : ∀ q ∈ rs, k ≤ q.1 := fun q hq => Int.le_trans c (Int.le_of_lt (hi.1 q hq))
      by_cases a : rs.all (fun q => bel r.2 q.2) = true
      · rw [if_pos (show k ≤ r.1 ∧ _ from ⟨c, a⟩)]
        dsimp only
        have nb : ∀ q t, falls k rs = q :: t → bel q.2 r.2 = false ∧ bel r.2 q.2 = true := fun q t e => by
          have hq : q ∈ rs := (falls_sub (k := k) (rs := rs) (q := q) (by rw [e]; exact List.mem_cons_self)).1
          have hb := List.all_eq_true.mp a q hq
          refine ⟨?_, hb⟩
          cases z : bel q.2 r.2 with
          | false => rfl
          | true =>
            have := bel_trans hb z
            rw [bel_irr] at this; cases this
        by_cases b : bel r.2 f = true
        · rw [if_pos (show k ≤ r.1 ∧ bel r.2 f = true from ⟨c, b⟩), if_pos b]
          cases e : falls k rs with
          | nil => rfl
          | cons q t =>
            dsimp only
            rw [(nb q t e).1]; rfl
        · rw [if_neg (fun z => b z.2), if_neg b]
          cases e : falls k rs with
          | nil => rfl
          | cons q t =>
            dsimp only
            rw [if_neg fun z => b (bel_trans (nb q t e).2 z)]
      · rw [if_neg (show ¬ (k ≤ r.1 ∧ rs.all (fun q => bel r.2 q.2) = true) from fun z => a z.2)]
        obtain ⟨p', hp', hb'⟩ : ∃ p' ∈ rs, bel r.2 p'.2 = false := by
          have a' : rs.all (fun q => bel r.2 q.2) = false := by simpa using a
          rw [List.all_eq_false] at a'
          obtain ⟨x, hx, h⟩ := a'
          exact ⟨x, hx, by simpa using h⟩
        obtain ⟨q, t, e, hq⟩ := falls_head hk ⟨p', hp', hb'⟩
        rw [e]
        dsimp only
        by_cases b : bel r.2 f = true
        · rw [if_pos (show k ≤ r.1 ∧ bel r.2 f = true from ⟨c, b⟩)]
          cases z : bel q.2 r.2 with
          | true => rw [if_pos (bel_trans z b)]; rfl
          | false =>
            have e2 := bel_tri z hq
            rw [e2, if_pos b]; rfl
        · rw [if_neg (show ¬ (k ≤ r.1 ∧ bel r.2 f = true) from fun z => b z.2)]
    · rw [if_neg (fun z => c z.1), if_neg (fun z => c z.1)]
theorem lst_head {k : Int} {rs : List Rp} (hi : inc rs) : lstG k rs none = (match falls k rs with
    | [] => none
    | q :: _ => q.2) := by
  rw [lst_falls rs none hi]
  cases falls k rs with
  | nil => rfl
  | cons q t =>
    dsimp only
    split
    · rfl
    · rename_i h
      cases e : q.2 with
      | none => rfl
      | some x => rw [e] at h; exact absurd rfl h
end K06

set_option Elab.async false
set_option linter.all false
set_option maxRecDepth 100000
set_option maxHeartbeats 4000000
namespace K06
open PySem L2 Dn
def Nd : Nu → D
  | none => .non
  | some l => .tup (l.map .int)
def Rd (r : Rp) : D := .tup [.int r.1, Nd r.2]
@[simp] theorem nd_pure (a : Nu) : (Nd a).pure = true := by cases a <;> rfl
@[simp] theorem nd_clo (a : Nu) : (Nd a).clo = true := by
  cases a with
  | none => exact cl_non
  | some l =>
    show D.clo (.tup _) = true
    rw [cl_tup]
    refine cloL_all fun d hd => ?_
    obtain ⟨i, _, e⟩ := List.mem_map.mp hd
    subst e; exact cl_int
@[simp] theorem nd_view (a : Nu) : (Nd a).view = Nd a := view_pure (nd_pure a)
@[simp] theorem nd_frz (a : Nu) : frz (.val (Nd a)) = .val (Nd a) := by cases a <;> rfl
@[simp] theorem nd_none : Nd none = .non := rfl
theorem below_spec (a b : Nu) : F_is_below [Nd a, Nd b] = .ok (.bl (bel a b)) [Nd a, Nd b] := by
  rw [f_is_below]
  cases a with
  | none => simp [bel]
  | some x =>
    cases b with
    | none => simp [bel, Nd]
    | some y => simp [bel, Nd, lt_tup]
theorem above_spec (a b : Nu) : F__law_above [Nd a, Nd b] = .ok (.bl (bel b a)) [Nd a, Nd b] := by
  rw [f__law_above]
  cases b with
  | none => simp [bel]
  | some x =>
    cases a with
    | none => simp [bel, Nd]
    | some y => simp [bel, Nd, gt_tup]
/-! ### rows -/
def row (h t : Int) (st : List Rp) : D := .ins "Row" ["head", "tail", "steps"] [.int h, .int t, .ml (st.map Rd)]
def rowV (h t : Int) (st : List Rp) : D := .vi "Row" ["head", "tail", "steps"] [.int h, .int t, .kl (st.map Rd)]
@[simp] theorem rd_pure (r : Rp) : (Rd r).pure = true := rfl
@[simp] theorem rd_frz (r : Rp) : frz (.val (Rd r)) = .val (Rd r) := rfl
@[simp] theorem rd_clo (r : Rp) : (Rd r).clo = true := by unfold Rd; simp
theorem rds_pure (st : List Rp) : allPure (st.map Rd) = true := List.all_eq_true.mpr fun d hd => by
  obtain ⟨r, _, e⟩ := List.mem_map.mp hd
  subst e; rfl
theorem rds_clo (st : List Rp) : cloL (st.map Rd) = true := cloL_all fun d hd => by
  obtain ⟨r, _, e⟩ := List.mem_map.mp hd
  subst e; exact rd_clo r
@[simp] theorem row_pure {h t st} : (row h t st).pure = false := rfl
@[simp] theorem rowV_pure {h t st} : (rowV h t st).pure = true := rfl
@[simp] theorem row_view {h t st} : (row h t st).view = rowV h t st := by
  unfold row rowV D.view
  simp [viewL, rds_pure]
@[simp] theorem rowV_view {h t st} : (rowV h t st).view = rowV h t st := by
  unfold rowV D.view
  rfl
@[simp] theorem rowV_frz {h t st} : frz (.val (rowV h t st)) = .val (rowV h t st) := rfl
section
variable {h t : Int} {st : List Rp} {ss : Sl} {L : List Nat} {i : Nat}
@[simp] theorem fl_head : flO cst.fld "head" (some (rowV h t st)) ss = .ok (.val (.int h)) ss := by
  unfold flO rowV
  dsimp only
  rw [if_pos (by decide +kernel), show fIx "head" ["head", "tail", "steps"] = some 0 by decide +kernel]
  rfl
@[simp] theorem fl_tail : flO cst.fld "tail" (some (rowV h t st)) ss = .ok (.val (.int t)) ss := by
  unfold flO rowV
  dsimp only
  rw [if_pos (by decide +kernel), show fIx "tail" ["head", "tail", "steps"] = some 1 by decide +kernel]
  rfl
@[simp] theorem fl_steps : flO cst.fld "steps" (some (rowV h t st)) ss = .ok (.val (.kl (st.map Rd))) ss := by
  unfold flO rowV
  dsimp only
  rw [if_pos (by decide +kernel), show fIx "steps" ["head", "tail", "steps"] = some 2 by decide +kernel]
  rfl
@[simp] theorem sf_head {x : Int} : sfO cst.fld i "head" (.int x) (some (some (row h t st))) ss = .nx (ss.set i (some (row x t st))) := by
  unfold sfO row
  dsimp only
  rw [if_pos (by decide +kernel), show fIx "head" ["head", "tail", "steps"] = some 0 by decide +kernel]
  rfl
@[simp] theorem sf_tail {x : Int} : sfO cst.fld i "tail" (.int x) (some (some (row h t st))) ss = .nx (ss.set i (some (row h x st))) := by
  unfold sfO row
  dsimp only
  rw [if_pos (by decide +kernel), show fIx "tail" ["head", "tail", "steps"] = some 1 by decide +kernel]
  rfl
theorem sf_steps {s2 : List Rp} : sfO cst.fld i "steps" (.ml (s2.map Rd)) (some (some (row h t st))) ss = .nx (ss.set i (some (row h t s2))) := by
  unfold sfO row
  dsimp only
  rw [if_pos (by decide +kernel), show fIx "steps" ["head", "tail", "steps"] = some 2 by decide +kernel]
  rfl
theorem fo_steps : fldOf cst.fld "steps" (some (some (row h t st))) = some (2, st.map Rd) := by
  unfold fldOf row
  dsimp only
  rw [if_pos (by decide +kernel), show fIx "steps" ["head", "tail", "steps"] = some 2 by decide +kernel]
  rfl
theorem sm_steps {s2 : List Rp} : setMl 2 (s2.map Rd) (some (some (row h t st))) = some (row h t s2) := rfl
theorem af_steps {g : EV} {r : Rp} (hl : st.length < 1000) (hg : foldA [g] (viewS ss) = .ok [.val (Rd r)] (viewS ss)) : afO cst.fld i "steps" g (some (some (row h t st))) ss = .ok (.val .non) (ss.set i (some (row h t (st ++ [r])))) := by
  unfold afO
  rw [fo_steps]
  dsimp only
  rw [hg, afR_val, if_pos ⟨rd_pure r, rd_clo r, by rw [List.length_map, sizeLine_eq]; omega⟩]
  have := sm_steps (h := h) (t := t) (st := st) (s2 := st ++ [r])
  rw [List.map_append] at this
  rw [← this]
  rfl
theorem pf_steps {r : Rp} : pfO cst.fld i "steps" (some (some (row h t (st ++ [r])))) ss = .ok (.val (Rd r)) (ss.set i (some (row h t st))) := by
  unfold pfO
  rw [fo_steps]
  dsimp only
  have p : allPure (st.map Rd ++ [Rd r]) = true := by
    have := rds_pure (st ++ [r])
    rw [List.map_append] at this
    exact this
  rw [List.map_append, show List.map Rd [r] = [Rd r] from rfl, popD_last p]
  dsimp only
  rw [sm_steps]
@[simp] theorem cls_row : clsOf (some (row h t st)) = some "Row" := rfl
@[simp] theorem cls_rowV : clsOf (some (rowV h t st)) = some "Row" := rfl
theorem is_row {m : Str} (hm : fIx m ["head", "tail", "steps"] = none) : isIns "Row" m (some (row h t st)) = true := by
  unfold isIns row
  dsimp only
  rw [hm]; simp
theorem is_rowV {m : Str} (hm : fIx m ["head", "tail", "steps"] = none) : isIns "Row" m (some (rowV h t st)) = true := by
  unfold isIns rowV
  dsimp only
  rw [hm]; simp
@[simp] theorem is1 : isIns "Row" "told" (some (row h t st)) = true := is_row (by decide +kernel)
@[simp] theorem is2 : isIns "Row" "acked" (some (row h t st)) = true := is_row (by decide +kernel)
@[simp] theorem is3 : isIns "Row" "steps_from" (some (rowV h t st)) = true := is_rowV (by decide +kernel)
@[simp] theorem is4 : isIns "Row" "state" (some (rowV h t st)) = true := is_rowV (by decide +kernel)
@[simp] theorem is5 : isIns "Row" "since" (some (rowV h t st)) = true := is_rowV (by decide +kernel)
@[simp] theorem is6 : isIns "Row" "least" (some (rowV h t st)) = true := is_rowV (by decide +kernel)
@[simp] theorem is7 : isIns "Row" "newest" (some (rowV h t st)) = true := is_rowV (by decide +kernel)
end
theorem init_spec : F_Row___init__ [.ins "Row" [] []] = .ok .non [row 0 0 []] := by
  have a1 : ∀ ss : Sl, sfO cst.fld 0 "head" (.int 0) (some (some (.ins "Row" [] []))) ss = .nx (ss.set 0 (some (.ins "Row" ["head"] [.int 0]))) := fun ss => by
    unfold sfO
    dsimp only
    rw [if_pos (by decide +kernel)]
    rfl
  have a2 : ∀ ss : Sl, sfO cst.fld 0 "tail" (.int 0) (some (some (.ins "Row" ["head"] [.int 0]))) ss = .nx (ss.set 0 (some (.ins "Row" ["head", "tail"] [.int 0, .int 0]))) := fun ss => by
    unfold sfO
    dsimp only
    rw [if_pos (by decide +kernel), show fIx "tail" ["head"] = none by decide +kernel]
    rfl
  have a3 : ∀ ss : Sl, sfO cst.fld 0 "steps" (.ml []) (some (some (.ins "Row" ["head", "tail"] [.int 0, .int 0]))) ss = .nx (ss.set 0 (some (row 0 0 []))) := fun ss => by
    unfold sfO
    dsimp only
    rw [if_pos (by decide +kernel), show fIx "steps" ["head", "tail"] = none by decide +kernel]
    rfl
  rw [f_Row___init__]
  simp [a1, a2, a3]
theorem state_spec (h t : Int) (st : List Rp) (hl : st.length < 1000) : F_Row_state [rowV h t st] = .ok (.tup [.int h, .int t, .tup (st.map Rd)]) [rowV h t st] := by
  rw [f_Row_state]
  simp (disch := omega) [rds_pure, rds_clo]
theorem least_spec (h t : Int) (st : List Rp) (hl : st.length < 1000) : F_Row_least [rowV h t st] = .ok (Nd (match st with | [] => none | q :: _ => q.2)) [rowV h t st] := by
  rw [f_Row_least]
  cases st with
  | nil => simp
  | cons q r =>
    have e : (0 : Int) < ((r.map Rd).length : Int) + 1 := by omega
    have e1 : ixD (.kl ((q :: r).map Rd)) (.int 0) = some (Rd q) := by
      rw [Dn.ix_kl, List.map_cons, at0]; rfl
    have e2 : ixD (Rd q) (.int 1) = some (Nd q.2) := by
      unfold Rd
      rw [Dn.ix_tup, at1]; simp
    simp (disch := omega) [e1, e2]
theorem atI_last {ds : List D} {d : D} : atI (ds ++ [d]) (-1) = some d := by
  unfold atI ixN
  rw [if_neg (by decide)]
  have z : (-1 + (((ds ++ [d]).length : Nat) : Int)).toNat = ds.length := by rw [List.length_append]; simp; omega
  rw [if_pos (by rw [List.length_append]; simp; omega), z]
  simp
theorem newest_spec (h t : Int) (st : List Rp) (q : Rp) (hl : st.length < 1000) : F_Row_newest [rowV h t (st ++ [q])] = .ok (Nd q.2) [rowV h t (st ++ [q])] := by
  rw [f_Row_newest]
  have e1 : atI (st.map Rd ++ [Rd q]) (-1) = some (Rd q) := atI_last
  have e2 : ixD (Rd q) (.int 1) = some (Nd q.2) := by
    unfold Rd
    rw [Dn.ix_tup, at1]; simp
  have e3 : (0 : Int) < (st.length : Int) + 1 := by omega
  simp (disch := omega) [e1, e2, e3]
theorem newest_nil (h t : Int) : F_Row_newest [rowV h t []] = .ok .non [rowV h t []] := by
  rw [f_Row_newest]
  simp
theorem from_spec (h t k : Int) (st : List Rp) (hl : st.length < 1000) : F_Row_steps_from [rowV h t st, .int k] = .ok (.ml ((st.filter fun q => decide (k ≤ q.1)).map Rd)) [rowV h t st, .int k] := by
  rw [f_Row_steps_from]
  simp (disch := omega)
  generalize hf : lcGo _ _ _ _ _ _ _ _ = r
  obtain ⟨acc, s, rfl, x, e, ha⟩ := lc_of hf (fun j acc s => ∃ x : Option D, s = [some (rowV h t st), some (.int k), x] ∧ ((∀ d, x = some d → d.pure = true) ∧ acc = ((st.take j).filter fun q => decide (k ≤ q.1)).map Rd ∧ j ≤ st.length))
    ⟨_, rfl, fun d z => (by cases z), by simp, by omega⟩ (fun j acc s ⟨x, e, p, _⟩ => by
      subst e
      refine ⟨?_, src_none⟩
      unfold purS
      cases x with
      | none => rfl
      | some d => simpa using p d rfl) (fun j acc s d ⟨x, e, p, ea, hj⟩ hd => by
      subst e
      have hd : (st.map Rd)[j]? = some d := hd
      rw [List.getElem?_map] at hd
      cases hq : st[j]? with
      | none => rw [hq] at hd; cases hd
      | some q =>
        rw [hq] at hd
        have hd : Rd q = d := by simpa using hd
        subst hd
        have hlt : j < st.length := (List.getElem?_eq_some_iff.mp hq).1
        have hge : st[j] = q := (List.getElem?_eq_some_iff.mp hq).2
        have e2 : ixD (Rd q) (.int 0) = some (.int q.1) := by
          unfold Rd
          rw [Dn.ix_tup, at0]; rfl
        have tk : st.take (j + 1) = st.take j ++ [q] := by rw [List.take_succ_eq_append_getElem hlt, hge]
        have acl : acc.length < 16777216 := by
          rw [ea, List.length_map]
          have := List.length_filter_le (fun q : Rp => decide (k ≤ q.1)) (st.take j)
          rw [List.length_take] at this
          omega
        refine ⟨[some (rowV h t st), some (.int k), some (Rd q)], decide (k ≤ q.1), [some (rowV h t st), some (.int k), some (Rd q)], ?_, ?_, fun hb => ?_, fun hb => ?_⟩
        · simp
        · simp [e2]
        · refine ⟨Rd q, [some (rowV h t st), some (.int k), some (Rd q)], by simp, rfl, by rw [sizeLine_eq]; exact acl, some (Rd q), rfl, fun d z => (by cases z; rfl), ?_, hlt⟩
          rw [tk, List.filter_append, List.map_append, ← ea]
          have : List.filter (fun q : Rp => decide (k ≤ q.1)) [q] = [q] := by simp [hb]
          rw [this]; rfl
        · refine ⟨some (Rd q), rfl, fun d z => (by cases z; rfl), ?_, hlt⟩
          rw [tk, List.filter_append, List.map_append, ← ea]
          have hb : ¬ k ≤ q.1 := of_decide_eq_false hb
          have : List.filter (fun q : Rp => decide (k ≤ q.1)) [q] = [] := by simp [hb]
          rw [this]; simp)
  subst e
  have ha2 := ha.2.1
  have e3 : (ItD.mk (st.map Rd) none).ds.length = st.length := List.length_map _
  rw [e3, List.take_length] at ha2
  subst ha2
  have hc : cloL ((st.filter fun q => decide (k ≤ q.1)).map Rd) = true := rds_clo _
  simp [hc]
end K06

set_option Elab.async false
set_option linter.all false
set_option maxRecDepth 100000
set_option maxHeartbeats 4000000
namespace K06
open PySem L2 Dn
/-! ### _law_like -/
def pl : Nat → D → Prop
  | 0, _ => False
  | m + 1, d => d = .non ∨ (∃ i, d = .int i) ∨ (∃ s, d = .str s) ∨ ∃ ds, d = .tup ds ∧ ds.length < 1000 ∧ ∀ x ∈ ds, pl m x
theorem pl_pure {m : Nat} {d : D} (h : pl m d) : d.pure = true := by
  cases m with
  | zero => exact h.elim
  | succ m => rcases h with h | ⟨i, h⟩ | ⟨s, h⟩ | ⟨ds, h, _⟩ <;> (subst h; rfl)
theorem pl_mono : ∀ {m k : Nat} {d : D}, m ≤ k → pl m d → pl k d
  | 0, _, _, _, h => h.elim
  | m + 1, 0, _, h, _ => by omega
  | m + 1, k + 1, d, hk, h => by
    rcases h with h | h | h | ⟨ds, h, hl, hx⟩
    · exact .inl h
    · exact .inr (.inl h)
    · exact .inr (.inr (.inl h))
    · exact .inr (.inr (.inr ⟨ds, h, hl, fun x hm => pl_mono (by omega) (hx x hm)⟩))
theorem zipD_get : ∀ {ds es : List D} {j : Nat} {d : D}, (zipD ds es)[j]? = some d → ∃ x y, ds[j]? = some x ∧ es[j]? = some y ∧ d = .tup [x, y] := by
  intro ds
  induction ds with
  | nil => intro es j d h; simp [zipD] at h
  | cons x ds ih =>
    intro es j d h
    cases es with
    | nil => simp [zipD] at h
    | cons y es =>
      cases j with
      | zero =>
        have h : some (D.tup [x, y]) = some d := h
        cases h
        exact ⟨x, y, rfl, rfl, rfl⟩
      | succ j => exact ih (j := j) h
theorem like_ok : ∀ (m : Nat) (d : D), pl m d → G__law_like m [d, d] = .ok (.bl true) [d, d]
  | 0, d, h => h.elim
  | m + 1, d, h => by
    rw [f__law_like]
    rcases h with h | ⟨i, h⟩ | ⟨s, h⟩ | ⟨ds, h, hl, hx⟩
    · subst h; simp
    · subst h; simp
    · subst h; simp [isTy]
    · subst h
      simp (disch := omega) [isTy]
      generalize hf : lcGo _ _ _ _ _ _ _ _ = r
      obtain ⟨acc, s, rfl, x2, x3, e, ea, p2, p3⟩ := lc_of hf (fun j acc s => ∃ x2 x3 : Option D, s = [some (.tup ds), some (.tup ds), x2, x3] ∧ acc = [] ∧ (∀ d, x2 = some d → d.pure = true) ∧ (∀ d, x3 = some d → d.pure = true))
        ⟨_, _, rfl, rfl, fun d z => (by cases z), fun d z => (by cases z)⟩ (fun j acc s ⟨x2, x3, e, ea, p2, p3⟩ => by
          subst e
          refine ⟨?_, src_none⟩
          unfold purS
          cases x2 with
          | none =>
            cases x3 with
            | none => rfl
            | some b => simpa using p3 b rfl
          | some a =>
            cases x3 with
            | none => simpa using p2 a rfl
            | some b => simp [p2 a rfl, p3 b rfl]) (fun j acc s d ⟨x2, x3, e, ea, p2, p3⟩ hd => by
          subst e; subst ea
          obtain ⟨x, y, hx1, hy1, ed⟩ := zipD_get (show (zipD ds ds)[j]? = some d from hd)
          rw [hx1] at hy1; cases hy1
          subst ed
          have hp := hx x (List.mem_of_getElem? hx1)
          have pp := pl_pure hp
          have ih := like_ok m x hp
          refine ⟨[some (.tup ds), some (.tup ds), some x, some x], false, [some (.tup ds), some (.tup ds), some x, some x], ?_, ?_, fun hb => (by cases hb), fun _ => ⟨some x, some x, rfl, rfl, fun d z => (by cases z; exact pp), fun d z => (by cases z; exact pp)⟩⟩
          · simp
          · simp [pp, ih])
      subst e; subst ea
      simp [eq_nil]
theorem like_spec {d : D} (h : pl 12 d) : F__law_like [d, d] = .ok (.bl true) [d, d] := by rw [g__law_like]; exact like_ok 12 d h
theorem likeH_int (i : Int) : H__law_like [.int i, .int i] = .ok (.bl true) [.int i, .int i] := by
  rw [gh__law_like, h__law_like]
  simp [isTy]
theorem pl_nd (a : Nu) (hl : ∀ l, a = some l → l.length < 1000) : pl 2 (Nd a) := by
  cases a with
  | none => exact .inl rfl
  | some l => exact .inr (.inr (.inr ⟨_, rfl, by rw [List.length_map]; exact hl l rfl, fun x hx => by
      obtain ⟨i, _, e⟩ := List.mem_map.mp hx
      subst e
      exact .inr (.inl ⟨i, rfl⟩)⟩))
/-- numbers are short -/
def sh (a : Nu) : Prop := ∀ l, a = some l → l.length < 1000
theorem pl_rd {r : Rp} (h : sh r.2) : pl 3 (Rd r) := .inr (.inr (.inr ⟨_, rfl, by simp, fun x hx => by
  rcases List.mem_cons.mp hx with e | hx
  · subst e; exact .inr (.inl ⟨_, rfl⟩)
  · have : x = Nd r.2 := by simpa using hx
    rw [this]; exact pl_nd _ h⟩))
theorem pl_state {h t : Int} {st : List Rp} (hl : st.length < 1000) (hs : ∀ r ∈ st, sh r.2) : pl 12 (.tup [.int h, .int t, .tup (st.map Rd)]) := pl_mono (m := 5) (by omega) (.inr (.inr (.inr ⟨_, rfl, by simp, fun x hx => by
  have hi : ∀ i : Int, pl 4 (.int i) := fun i => .inr (.inl ⟨i, rfl⟩)
  rcases List.mem_cons.mp hx with e | hx
  · subst e; exact hi _
  · rcases List.mem_cons.mp hx with e | hx
    · subst e; exact hi _
    · have : x = .tup (st.map Rd) := by simpa using hx
      subst this
      exact .inr (.inr (.inr ⟨_, rfl, by rw [List.length_map]; exact hl, fun y hy => by
        obtain ⟨r, hr, e⟩ := List.mem_map.mp hy
        subst e
        exact pl_rd (hs r hr)⟩))⟩)))
end K06

set_option Elab.async false
set_option linter.all false
set_option maxRecDepth 100000
set_option maxHeartbeats 4000000
namespace K06
open PySem L2 Dn
abbrev refE (s : Int) : Ex := ⟨"Refused", ["value"], [.int s]⟩
theorem told_no (h t s : Int) (st : List Rp) (n : Nu) (hs : s ≤ t) : F_Row_told [row h t st, .int s, Nd n] = .exc (refE s) [row h t st, .int s, Nd n] := by
  rw [f_Row_told]
  simp [hs]
theorem last_of : ∀ st : List Rp, st = [] ∨ ∃ s q, st = s ++ [q]
  | [] => .inl rfl
  | r :: st => by
    rcases last_of st with e | ⟨s, q, e⟩
    · subst e; exact .inr ⟨[], r, rfl⟩
    · subst e; exact .inr ⟨r :: s, q, rfl⟩
theorem told_ok (h t s : Int) (st : List Rp) (n : Nu) (hs : t < s) (hc : chain st) (hl : st.length < 900) : F_Row_told [row h t st, .int s, Nd n] = .ok .non [row h s (popB n st ++ [(s, n)]), .int s, Nd n] := by
  have hn : ¬ s ≤ t := by omega
  rw [f_Row_told]
  simp [hn]
  generalize hw : dWhile _ _ _ _ = r
  obtain ⟨s1, rfl, st1, e1, p1, c1, l1, k1⟩ := while_of hw (fun m x => ∃ st1 : List Rp, x = [some (row h t st1), some (.int s), some (Nd n)] ∧ popB n st1 = popB n st ∧ chain st1 ∧ st1.length < 900 ∧ m = st1.length)
    _ ⟨st, rfl, rfl, hc, hl, rfl⟩ (fun x => ∃ st1 : List Rp, x = [some (row h t st1), some (.int s), some (Nd n)] ∧ popB n st1 = popB n st ∧ chain st1 ∧ st1.length < 900 ∧ popB n st1 = st1) (fun m x ⟨st1, e, p1, c1, l1, hm⟩ => by
      subst e
      rcases last_of st1 with e | ⟨s2, q, e⟩
      · subst e
        exact .inl ⟨[some (row h t []), some (.int s), some (Nd n)], by simp, [], rfl, p1, c1, l1, rfl⟩
      · subst e
        have e1 : atI (s2.map Rd ++ [Rd q]) (-1) = some (Rd q) := atI_last
        have e2 : ixD (Rd q) (.int 1) = some (Nd q.2) := by
          unfold Rd
          rw [Dn.ix_tup, at1]; simp
        have e3 : (0 : Int) < (s2.length : Int) + 1 := by omega
        cases b : bel q.2 n with
        | true => exact .inl ⟨[some (row h t (s2 ++ [q])), some (.int s), some (Nd n)], by simp [e1, e2, e3, below_spec, b], s2 ++ [q], rfl, p1, c1, l1, pop_keep c1 b⟩
        | false =>
          refine .inr ⟨[some (row h t (s2 ++ [q])), some (.int s), some (Nd n)], [some (row h t s2), some (.int s), some (Nd n)], by simp [e1, e2, e3, below_spec, b], .inl ?_, s2.length, by rw [hm]; simp, s2, rfl, by rw [← p1, pop_drop b], (chain_append c1).1, by rw [List.length_append] at l1; omega, rfl⟩
          simp [pf_steps])
  subst e1
  rw [← p1, k1]
  have ha := af_steps (h := h) (t := t) (st := st1) (i := 0) (ss := [some (row h t st1), some (.int s), some (Nd n)]) (r := (s, n)) (g := dFrz (dTup (foldA [dFrz (dVar 1), dFrz (dVar 2)]))) (by omega) (by
    simp (disch := omega)
    rfl)
  simp [-ev_frz, ha]
theorem acked_no (h t k : Int) (st : List Rp) (hk : ¬ (h < k ∧ k ≤ t)) : F_Row_acked [row h t st, .int k] = .exc (refE k) [row h t st, .int k] := by
  rw [f_Row_acked]
  by_cases a : h < k
  · have b : ¬ k ≤ t := fun z => hk ⟨a, z⟩
    simp [a, b]
  · simp [a]
theorem acked_ok (h t k : Int) (st : List Rp) (hl : st.length < 900) (hk : h < k ∧ k ≤ t) : F_Row_acked [row h t st, .int k] = .ok .non [row k t (st.filter fun q => decide (k ≤ q.1)), .int k] := by
  rw [f_Row_acked]
  have e := from_spec h t k st (by omega)
  have hc : cloL ((st.filter fun q => decide (k ≤ q.1)).map Rd) = true := rds_clo _
  simp [hk.1, hk.2, e, hc, sf_steps]
theorem since_no (h t k : Int) (st : List Rp) (hk : ¬ (max h 1 ≤ k ∧ k ≤ t)) : F_Row_since [rowV h t st, .int k] = .exc (refE k) [rowV h t st, .int k] := by
  rw [f_Row_since]
  by_cases a : max h 1 ≤ k
  · have b : ¬ k ≤ t := fun z => hk ⟨a, z⟩
    simp [a, b]
  · simp [a]
theorem since_ok (h t k : Int) (st : List Rp) (q : Rp) (r : List Rp) (hl : st.length < 900) (hk : max h 1 ≤ k ∧ k ≤ t) (hf : st.filter (fun q => decide (k ≤ q.1)) = q :: r) : F_Row_since [rowV h t st, .int k] = .ok (Nd q.2) [rowV h t st, .int k] := by
  rw [f_Row_since]
  have e := from_spec h t k st (by omega)
  rw [hf] at e
  have e1 : ixD (.ml ((q :: r).map Rd)) (.int 0) = some (Rd q) := by
    rw [Dn.ix_ml, List.map_cons, at0]; rfl
  have e2 : ixD (Rd q) (.int 1) = some (Nd q.2) := by
    unfold Rd
    rw [Dn.ix_tup, at1]; simp
  simp [hk.1, hk.2, e, e1, e2]
/-! ### refusals -/
theorem exm_R : lookM cst.exm "Refused" "Refused" = some true := by decide +kernel
theorem exm_B : lookM cst.exm "BadRow" "OwnError" = some true := by decide +kernel
theorem exm_N : lookM cst.exm "BadNumber" "BadNumber" = some true := by decide +kernel
section
variable {a dx : Nat} {f : EV} {ss : Sl}
@[simp] theorem isx1 : isxF cst.isx a dx "BadRow" "BadRow" f = dIsX cst.isx a dx "BadRow" "BadRow" f := if_pos (by decide +kernel)
@[simp] theorem isx2 : isxF cst.isx a dx "BadRow" "Refused" f = dIsX cst.isx a dx "BadRow" "Refused" f := if_pos (by decide +kernel)
@[simp] theorem isl1 : cst.isx.lookup (("BadRow", "BadRow") : Str × Str) = some true := by decide +kernel
@[simp] theorem isl2 : cst.isx.lookup (("BadRow", "Refused") : Str × Str) = some false := by decide +kernel
@[simp] theorem att1 : attF cst.exc a dx "Refused" "value" f = dXf a dx "Refused" "value" f := by
  unfold attF
  rw [show cst.exc.lookup ("Refused" : Str) = some ("value" : Str) by decide +kernel]
  rfl
@[simp] theorem att2 : attF cst.exc a dx "BadRow" "at" f = dXf a dx "BadRow" "at" f := by
  unfold attF
  rw [show cst.exc.lookup ("BadRow" : Str) = some ("at" : Str) by decide +kernel]
  rfl
@[simp] theorem ev_xf {c : Str} {fl : Str} : dXf a dx c fl f ss = (f ss).bind fun x s1 => xfX a dx c fl x s1 := rfl
@[simp] theorem xf_val {c fl : Str} {i : Int} : xfX a dx c fl (.val (.exo a dx c [fl] [.int i])) ss = .ok (.val (.int i)) ss := by
  unfold xfX
  dsimp only
  rw [if_pos ⟨rfl, rfl, rfl⟩]
  have : List.lookup fl (List.zip [fl] [D.int i]) = some (.int i) := List.lookup_cons_self
  rw [this]
  rfl
@[simp] theorem pu_exo {c ns ds} : D.pure (.exo a dx c ns ds) = true := rfl
@[simp] theorem fz_exo {c ns ds} : frz (.val (.exo a dx c ns ds)) = .val (.exo a dx c ns ds) := rfl
end
theorem str_ne : decide (("acked" : Str) = "told") = false := by decide +kernel
theorem str_ne' : ¬ (("acked" : Str) = "told") := by decide +kernel
end K06

set_option Elab.async false
set_option linter.all false
set_option maxRecDepth 100000
set_option maxHeartbeats 4000000
namespace K06
open PySem L2 Dn
@[simp] theorem bin_p10 : binD .Pow (.int 10) (.int 10) = some (.int 10000000000) := by rw [bin_pow (by decide)]; rfl
@[simp] theorem bin_p11 : binD .Pow (.int 10) (.int 11) = some (.int 100000000000) := by rw [bin_pow (by decide)]; rfl
@[simp] theorem bin_p12 : binD .Pow (.int 10) (.int 12) = some (.int 1000000000000) := by rw [bin_pow (by decide)]; rfl
theorem rng_get {lo : Int} {n i : Nat} {d : D} (h : (rngD lo n)[i]? = some d) : i < n ∧ d = .int (lo + (i : Int)) := letI : ZS := ⟨fun _ => False⟩; rngD_get h
theorem take_spec (a b m : Int) (h0 : 0 < m) (h1 : m < 18446744073709551616) : ∃ a' b' r, 0 ≤ r ∧ r < m ∧ F__law_take [.ml [.int a, .int b], .int m] = .ok (.int r) [.ml [.int a', .int b'], .int m] := by
  rw [f__law_take]
  by_cases h : 0 < a
  · simp (disch := omega) [h]
    exact ⟨_, _, _, Int.emod_nonneg _ (by omega), Int.emod_lt_of_pos _ h0, rfl, rfl, rfl⟩
  · simp (disch := omega) [h]
    exact ⟨_, _, _, Int.emod_nonneg _ (by omega), Int.emod_lt_of_pos _ h0, rfl, rfl, rfl⟩
theorem pick_spec (a b : Int) (ds : List D) (h0 : 0 < ds.length) (h1 : ds.length < 1000) (hp : allPure ds = true) : ∃ a' b' d, d ∈ ds ∧ F__law_pick [.ml [.int a, .int b], .lst ds] = .ok d [.ml [.int a', .int b'], .lst ds] := by
  obtain ⟨a', b', r, r0, r1, e⟩ := take_spec a b ds.length (by omega) (by omega)
  obtain ⟨d, hd⟩ : ∃ d, ds[r.toNat]? = some d := ⟨ds[r.toNat]'(by omega), List.getElem?_eq_getElem _⟩
  have hm := List.mem_of_getElem? hd
  have pd : d.pure = true := List.all_eq_true.mp hp d hm
  refine ⟨a', b', d, hm, ?_⟩
  rw [f__law_pick]
  simp (disch := omega) [e, atI_pos r0 hd, pd]
theorem pickM_spec (a b : Int) (ds : List D) (h0 : 0 < ds.length) (h1 : ds.length < 1000) (hp : allPure ds = true) : ∃ a' b' d, d ∈ ds ∧ F__law_pick [.ml [.int a, .int b], .ml ds] = .ok d [.ml [.int a', .int b'], .ml ds] := by
  obtain ⟨a', b', r, r0, r1, e⟩ := take_spec a b ds.length (by omega) (by omega)
  obtain ⟨d, hd⟩ : ∃ d, ds[r.toNat]? = some d := ⟨ds[r.toNat]'(by omega), List.getElem?_eq_getElem _⟩
  have hm := List.mem_of_getElem? hd
  have pd : d.pure = true := List.all_eq_true.mp hp d hm
  refine ⟨a', b', d, hm, ?_⟩
  rw [f__law_pick]
  simp (disch := omega) [e, atI_pos r0 hd, pd]
theorem box_spec (ns : List Int) (k : Int) (h0 : 0 ≤ k) : ∃ a b, F__law_box [.lst (ns.map .int), .int k] = .ok (.ml [.int a, .int b]) [.lst (ns.map .int), .int k] := by
  obtain ⟨P, hP⟩ : ∃ P, binD .Pow (.int 10) (.int 18) = some (.int P) := ⟨_, bin_p18⟩
  rw [f__law_box]
  by_cases h : k < ns.length
  · have hd : atI (ns.map D.int) k = some (.int (ns[k.toNat]'(by omega))) := atI_pos h0 (by rw [List.getElem?_map, List.getElem?_eq_getElem (by omega)]; rfl)
    simp (disch := omega) [h, hd, -bin_p18, hP]
  · by_cases hz : 0 < ns.length
    · have hm0 : 0 ≤ k % ns.length := Int.emod_nonneg _ (by omega)
      have hm1 : k % ns.length < ns.length := Int.emod_lt_of_pos _ (by omega)
      have hd : atI (ns.map D.int) (k % ns.length) = some (.int (ns[(k % ns.length).toNat]'(by omega))) := atI_pos hm0 (by rw [List.getElem?_map, List.getElem?_eq_getElem (by omega)]; rfl)
      simp (disch := omega) [h, hd, hz, -bin_p18, hP]
    · simp (disch := omega) [h, hz, -bin_p18, hP]
theorem ints_pure (l : List Int) : allPure (l.map D.int) = true := List.all_eq_true.mpr fun d hd => by
  obtain ⟨i, _, e⟩ := List.mem_map.mp hd
  subst e; rfl
@[simp] theorem bin_addM {a b : List D} : binD .Add (.ml a) (.ml b) = if a.length + b.length ≤ sizeLine ∧ allPure a = true ∧ allPure b = true then some (.ml (a ++ b)) else none := rfl
theorem number_spec (a b few : Int) (h0 : 0 < few) (h1 : few < 1000) : ∃ a' b' n, sh n ∧ F__law_number [.ml [.int a, .int b], .int few] = .ok (Nd n) [.ml [.int a', .int b'], .int few] := by
  obtain ⟨a1, b1, r1, p1, q1, e1⟩ := take_spec a b 5 (by decide) (by decide)
  by_cases c0 : r1 = 0
  · refine ⟨a1, b1, none, fun l z => (by cases z), ?_⟩
    rw [f__law_number]
    simp [e1, c0]
  by_cases c4 : r1 < 4
  · obtain ⟨a2, b2, r2, p2, q2, e2⟩ := take_spec a1 b1 few h0 (by omega)
    obtain ⟨a3, b3, r3, p3, q3, e3⟩ := take_spec a2 b2 2 (by decide) (by decide)
    refine ⟨a3, b3, some [r2, r3], fun l z => (by cases z; simp), ?_⟩
    rw [f__law_number]
    simp [e1, c0, c4, e2, e3, Nd]
  obtain ⟨a2, b2, r2, p2, q2, e2⟩ := take_spec a1 b1 1000000000000 (by decide) (by decide)
  obtain ⟨a3, b3, v3, m3, e3⟩ := pick_spec a2 b2 [.int 0, .int 1000000000000, .int r2] (Nat.succ_pos _) (by simp) rfl
  obtain ⟨x3, rfl⟩ : ∃ x : Int, v3 = .int x := by
    simp only [List.mem_cons, List.not_mem_nil, or_false] at m3
    rcases m3 with h | h | h <;> exact ⟨_, h⟩
  obtain ⟨a4, b4, r4, p4, q4, e4⟩ := take_spec a3 b3 9 (by decide) (by decide)
  rw [f__law_number]
  simp (disch := omega) [e1, c0, c4, e2, e3, e4]
  generalize hf : forGo _ _ _ _ _ _ = r
  obtain ⟨s2, rfl, u, v, es, x4, e, hl⟩ := for_of hf (fun t s => ∃ (u v : Int) (es : List Int) (x4 : Option D), s = [some (.ml [.int u, .int v]), some (.int few), some (.int r1), some (.ml (es.map .int)), x4] ∧ es.length ≤ t + 1)
    ⟨a4, b4, [x3], _, rfl, by simp⟩ (fun _ _ _ => src_none) (fun t s d ⟨u, v, es, x4, e, hl⟩ hd => by
      subst e
      obtain ⟨ht, rfl⟩ := rng_get hd
      have ht9 : t < 9 := by omega
      obtain ⟨u1, v1, s1, i1, j1, g1⟩ := take_spec u v 1000000000000 (by decide) (by decide)
      obtain ⟨u2, v2, s2, i2, j2, g2⟩ := take_spec u1 v1 1000000000000 (by decide) (by decide)
      obtain ⟨u3, v3, w3, n3, g3⟩ := pick_spec u2 v2 [.int 0, .int (-1), .int (-1000000000000), .int 1000000000000, .int (s1 - s2)] (Nat.succ_pos _) (by simp) rfl
      obtain ⟨y3, rfl⟩ : ∃ x : Int, w3 = .int x := by
        simp only [List.mem_cons, List.not_mem_nil, or_false] at n3
        rcases n3 with h | h | h | h | h <;> exact ⟨_, h⟩
      refine ⟨[some (.ml [.int u, .int v]), some (.int few), some (.int r1), some (.ml (es.map .int)), some (.int (0 + (t : Int)))], [some (.ml [.int u3, .int v3]), some (.int few), some (.int r1), some (.ml ((es ++ [y3]).map .int)), some (.int (0 + (t : Int)))], ?_, .inl ?_, u3, v3, es ++ [y3], _, rfl, ?_⟩
      · simp
      · simp (disch := omega) [g1, g2, g3]
      · rw [List.length_append, List.length_singleton]; omega)
  subst e
  obtain ⟨a5, b5, r5, p5, q5, e5⟩ := take_spec u v 32 (by decide) (by decide)
  have hl9 : es.length ≤ 10 := by
    have : (rngD 0 r4.toNat).length ≤ 9 := by simp [rngD]; omega
    have hl : es.length ≤ (rngD 0 r4.toNat).length + 1 := hl
    omega
  refine ⟨a5, b5, some (es ++ [r5]), fun l z => ?_, ?_⟩
  · cases z
    rw [List.length_append, List.length_singleton]; omega
  · have hp : allPure (es.map D.int ++ [.int r5]) = true := by
      have := ints_pure (es ++ [r5])
      rw [List.map_append] at this
      exact this
    simp (disch := omega) [e5, ints_pure, Nd, hp]
end K06

set_option Elab.async false
set_option linter.all false
set_option maxRecDepth 100000
set_option maxHeartbeats 4000000
namespace K06
open PySem L2 Dn
theorem eq_rep0 : ∀ c : Fin 64, cmpD .Eq (.ml (List.replicate c.val (.int 1))) (.ml []) = some (decide (c.val = 0)) := by decide +kernel
theorem eq_rep {c : Nat} (h : c < 64) : cmpD' .Eq (.ml (List.replicate c (.int 1))) (.ml []) = some (.bl (decide (c = 0))) := by
  unfold cmpD'
  rw [eq_rep0 ⟨c, h⟩]; rfl
theorem enum_get {ds : List D} {t : Nat} {d : D} (h : (enumD ds)[t]? = some d) : ∃ x, ds[t]? = some x ∧ d = .tup [.int (t : Int), x] := by
  unfold enumD at h
  rw [List.getElem?_map, List.getElem?_zipIdx] at h
  cases q : ds[t]? with
  | none => rw [q] at h; cases h
  | some x =>
    rw [q] at h
    simp at h
    exact ⟨x, rfl, h.symm⟩
theorem cut_drop {α : Type} {xs : List α} {t : Nat} (h : t < xs.length) : cutL xs (some ((t : Int) + 1)) none = xs.drop (t + 1) := by
  unfold cutL
  have e : ((t : Int) + 1) = ((t + 1 : Nat) : Int) := by omega
  rw [e, HT.sIx_nat, HT.sIx_none, Nat.min_eq_left (by omega)]
  exact List.take_of_length_le (by rw [List.length_drop]; omega)
theorem comp_spec (rs : List Rp) (f l : Int) (x3 x7 : Option D) (t : Nat) (q : Rp) (hl : rs.length < 60) (ht : rs[t]? = some q) (p7 : ∀ d, x7 = some d → d.pure = true) :
    dLc (dSeqIt (dFrz (dSl (dVar 0) (dPart (d2 (binD .Add) (dVar 4) (dCst (.int 1)))) dNoP))) (.nm 7) (dNotT (dTr (dCall 2 F__law_above (foldA [(dFrz (d2 ixD (dVar 7) (dCst (.int 1)))), (dVar 6)])))) (dFrz (dCst (.int 1))) [7]
      [some (.ml (rs.map Rd)), some (.int f), some (.int l), x3, some (.int (t : Int)), some (.int q.1), some (Nd q.2), x7] =
      .ok (.val (.ml (List.replicate ((rs.drop (t + 1)).countP fun p => !bel q.2 p.2) (.int 1)))) [some (.ml (rs.map Rd)), some (.int f), some (.int l), x3, some (.int (t : Int)), some (.int q.1), some (Nd q.2), x7] := by
  have hlt : t < rs.length := (List.getElem?_eq_some_iff.mp ht).1
  have hcut : cutL (rs.map Rd) (some ((t : Int) + 1)) none = (rs.drop (t + 1)).map Rd := by
    rw [cut_drop (by rw [List.length_map]; exact hlt), List.map_drop]
  have e1 : dSeqIt (dFrz (dSl (dVar 0) (dPart (d2 (binD .Add) (dVar 4) (dCst (.int 1)))) dNoP)) [some (.ml (rs.map Rd)), some (.int f), some (.int l), x3, some (.int (t : Int)), some (.int q.1), some (Nd q.2), x7] =
      .ok ⟨(rs.drop (t + 1)).map Rd, none⟩ [some (.ml (rs.map Rd)), some (.int f), some (.int l), x3, some (.int (t : Int)), some (.int q.1), some (Nd q.2), x7] := by
    have hp := rds_pure (rs.drop (t + 1))
    rw [List.map_drop] at hp
    simp [dSl, dPart, asP, dNoP, op3s, slD, rds_pure, hcut, hp]
  have hps : purS [some (.ml (rs.map Rd)), some (.int f), some (.int l), x3, some (.int (t : Int)), some (.int q.1), some (Nd q.2), x7] [7] = true := by
    cases x7 with
    | none => simp
    | some d => simp [p7 d rfl]
  rw [ev_lc, e1]
  show (if purS _ [7] = true then _ else _) = _
  rw [if_pos hps]
  generalize hf : lcGo _ _ _ _ _ _ _ _ = r
  obtain ⟨acc, s, rfl, y, e, py, ea⟩ := lc_of hf (fun j acc s => ∃ y : Option D, s = [some (.ml (rs.map Rd)), some (.int f), some (.int l), x3, some (.int (t : Int)), some (.int q.1), some (Nd q.2), y] ∧ (∀ d, y = some d → d.pure = true) ∧
      acc = List.replicate (((rs.drop (t + 1)).take j).countP fun p => !bel q.2 p.2) (.int 1))
    ⟨x7, rfl, p7, by simp⟩ (fun j acc s ⟨y, e, py, ea⟩ => by
      subst e
      refine ⟨?_, src_none⟩
      cases y with
      | none => simp
      | some d => simp [py d rfl]) (fun j acc s d ⟨y, e, py, ea⟩ hd => by
      subst e
      have hd : ((rs.drop (t + 1)).map Rd)[j]? = some d := hd
      rw [List.getElem?_map] at hd
      cases hp : (rs.drop (t + 1))[j]? with
      | none => rw [hp] at hd; cases hd
      | some p =>
        rw [hp] at hd
        have hd : Rd p = d := by simpa using hd
        subst hd
        have hj : j < (rs.drop (t + 1)).length := (List.getElem?_eq_some_iff.mp hp).1
        have hge : (rs.drop (t + 1))[j] = p := (List.getElem?_eq_some_iff.mp hp).2
        have tk : (rs.drop (t + 1)).take (j + 1) = (rs.drop (t + 1)).take j ++ [p] := by rw [List.take_succ_eq_append_getElem hj, hge]
        have e2 : ixD (Rd p) (.int 1) = some (Nd p.2) := by
          unfold Rd
          rw [Dn.ix_tup, at1]; simp
        have acl : acc.length < 16777216 := by
          rw [ea, List.length_replicate]
          have := List.countP_le_length (p := fun p : Rp => !bel q.2 p.2) (l := (rs.drop (t + 1)).take j)
          rw [List.length_take, List.length_drop] at this
          omega
        refine ⟨[some (.ml (rs.map Rd)), some (.int f), some (.int l), x3, some (.int (t : Int)), some (.int q.1), some (Nd q.2), some (Rd p)], !bel q.2 p.2, [some (.ml (rs.map Rd)), some (.int f), some (.int l), x3, some (.int (t : Int)), some (.int q.1), some (Nd q.2), some (Rd p)], ?_, ?_, fun hb => ?_, fun hb => ?_⟩
        · simp
        · simp [e2, above_spec]
        · refine ⟨.int 1, [some (.ml (rs.map Rd)), some (.int f), some (.int l), x3, some (.int (t : Int)), some (.int q.1), some (Nd q.2), some (Rd p)], by simp, rfl, by rw [sizeLine_eq]; exact acl, some (Rd p), rfl, fun d z => (by cases z; rfl), ?_⟩
          rw [tk, List.countP_append, ea]
          have : List.countP (fun p : Rp => !bel q.2 p.2) [p] = 1 := by simp [hb]
          rw [this, List.replicate_succ']
        · refine ⟨some (Rd p), rfl, fun d z => (by cases z; rfl), ?_⟩
          rw [tk, List.countP_append, ea]
          have : List.countP (fun p : Rp => !bel q.2 p.2) [p] = 0 := by
            have hb : bel q.2 p.2 = true := by simpa using hb
            simp [hb]
          rw [this]; rfl)
  subst e
  have e3 : (ItD.mk ((rs.drop (t + 1)).map Rd) none).ds.length = (rs.drop (t + 1)).length := List.length_map _
  rw [e3, List.take_length] at ea
  subst ea
  simp
theorem state_law (f l : Int) (rs : List Rp) (hl : rs.length < 60) : F__law_state [.ml (rs.map Rd), .int f, .int l] = .ok (.tup [.int f, .int l, .tup ((falls f rs).map Rd)]) [.ml (rs.map Rd), .int f, .int l] := by
  rw [f__law_state]
  simp (disch := omega) [rds_pure]
  generalize hf : forGo _ _ _ _ _ _ = r
  obtain ⟨s2, rfl, acc, x4, x5, x6, x7, e, ha, hal, p7⟩ := for_of hf (fun t s => ∃ (acc : List Rp) (x4 x5 x6 x7 : Option D), s = [some (.ml (rs.map Rd)), some (.int f), some (.int l), some (.ml (acc.map Rd)), x4, x5, x6, x7] ∧ acc ++ falls f (rs.drop t) = falls f rs ∧ acc.length ≤ t ∧ (∀ d, x7 = some d → d.pure = true))
    ⟨[], none, none, none, none, rfl, rfl, by simp, fun d z => (by cases z)⟩ (fun t s ⟨acc, x4, x5, x6, x7, e, _⟩ => by subst e; exact src_some rfl) (fun t s d ⟨acc, x4, x5, x6, x7, e, ha, hal, p7⟩ hd => by
      subst e
      obtain ⟨x, hx, ed⟩ := enum_get (show (enumD (rs.map Rd))[t]? = some d from hd)
      subst ed
      rw [List.getElem?_map] at hx
      cases hq : rs[t]? with
      | none => rw [hq] at hx; cases hx
      | some q =>
        rw [hq] at hx
        have hx : Rd q = x := by simpa using hx
        subst hx
        have hlt : t < rs.length := (List.getElem?_eq_some_iff.mp hq).1
        have hge : rs[t] = q := (List.getElem?_eq_some_iff.mp hq).2
        have hdr : rs.drop t = q :: rs.drop (t + 1) := by rw [List.drop_eq_getElem_cons hlt, hge]
        have cs := comp_spec rs f l (some (.ml (acc.map Rd))) x7 t q hl hq p7
        have hc64 : ((rs.drop (t + 1)).countP fun p => !bel q.2 p.2) < 64 := by
          have := List.countP_le_length (p := fun p : Rp => !bel q.2 p.2) (l := rs.drop (t + 1))
          rw [List.length_drop] at this
          omega
        have hz : (((rs.drop (t + 1)).countP fun p => !bel q.2 p.2) = 0) ↔ (rs.drop (t + 1)).all (fun p => bel q.2 p.2) = true := by
          rw [List.countP_eq_zero, List.all_eq_true]
          simp
        have t1 : tgSet [0] (.tn [(.nm 4), (.tp [5, 6])]) (.tup [.int (t : Int), Rd q]) [some (.ml (rs.map Rd)), some (.int f), some (.int l), some (.ml (acc.map Rd)), x4, x5, x6, x7] = some [some (.ml (rs.map Rd)), some (.int f), some (.int l), some (.ml (acc.map Rd)), some (.int (t : Int)), some (.int q.1), some (Nd q.2), x7] := by
          unfold Rd
          simp
        refine ⟨[some (.ml (rs.map Rd)), some (.int f), some (.int l), some (.ml (acc.map Rd)), some (.int (t : Int)), some (.int q.1), some (Nd q.2), x7], ?_⟩
        rw [hdr] at ha
        have hf1 : falls f (q :: rs.drop (t + 1)) = if f ≤ q.1 ∧ (rs.drop (t + 1)).all (fun p => bel q.2 p.2) = true then q :: falls f (rs.drop (t + 1)) else falls f (rs.drop (t + 1)) := rfl
        rw [hf1] at ha
        by_cases c : f ≤ q.1
        · by_cases b : (rs.drop (t + 1)).all (fun p => bel q.2 p.2) = true
          · have b0 := hz.mpr b
            rw [if_pos (show f ≤ q.1 ∧ _ from ⟨c, b⟩)] at ha
            refine ⟨[some (.ml (rs.map Rd)), some (.int f), some (.int l), some (.ml ((acc ++ [q]).map Rd)), some (.int (t : Int)), some (.int q.1), some (Nd q.2), x7], t1, .inl ?_, acc ++ [q], _, _, _, x7, rfl, by rw [List.append_assoc]; exact ha, by rw [List.length_append]; simpa using hal, p7⟩
            rw [b0] at cs
            have al : acc.length < 16777216 := by omega
            simp [c, -ev_lc, cs, eq_rep (c := 0) (by omega), eq_nil, al]
            rfl
          · have b0 : ¬ ((rs.drop (t + 1)).countP fun p => !bel q.2 p.2) = 0 := fun z => b (hz.mp z)
            rw [if_neg (fun z => b z.2)] at ha
            refine ⟨[some (.ml (rs.map Rd)), some (.int f), some (.int l), some (.ml (acc.map Rd)), some (.int (t : Int)), some (.int q.1), some (Nd q.2), x7], t1, .inl ?_, acc, _, _, _, x7, rfl, ha, by omega, p7⟩
            generalize ((rs.drop (t + 1)).countP fun p => !bel q.2 p.2) = n at *
            simp [c, -ev_lc, cs, eq_rep hc64, b0]
        · rw [if_neg (fun z => c z.1)] at ha
          refine ⟨[some (.ml (rs.map Rd)), some (.int f), some (.int l), some (.ml (acc.map Rd)), some (.int (t : Int)), some (.int q.1), some (Nd q.2), x7], t1, .inl ?_, acc, _, _, _, x7, rfl, ha, by omega, p7⟩
          simp [c])
  subst e
  have e3 : (ItD.mk (enumD (rs.map Rd)) (some (0, rs.map Rd))).ds.length = rs.length := by simp [enumD]
  rw [e3, List.drop_length] at ha
  have ha : acc = falls f rs := by
    rw [← ha]; simp [falls]
  subst ha
  have hp := rds_pure (falls f rs)
  simp [hp]
end K06

set_option Elab.async false
set_option linter.all false
set_option maxRecDepth 100000
set_option maxHeartbeats 4000000
namespace K06
open PySem L2 Dn
def repX (b : Bool) (rs : List Rp) : D := if b = true then .ml (rs.map Rd) else .kl (rs.map Rd)
theorem bel_step (f n : Nu) : (if isNonD (Nd n) = true then false else if isNonD (Nd f) = true then true else bel n f) = bel n f := by
  cases n with
  | none => rfl
  | some x => cases f with
    | none => rfl
    | some y => rfl
theorem lt_nd {f n : Nu} (h1 : n ≠ none) (h2 : f ≠ none) : cmpD' .Lt (Nd n) (Nd f) = some (.bl (bel n f)) := by
  cases n with
  | none => exact absurd rfl h1
  | some x => cases f with
    | none => exact absurd rfl h2
    | some y => exact lt_tup x y
theorem nn_nd (a : Nu) : isNonD (Nd a) = decide (a = none) := by cases a <;> rfl
/-- one turn of the least -/
theorem least_turn (k : Int) (q : Rp) (g : Nu) (X : D) (x3 x4 : Option D) (L : List Nat) (hL : 2 ∉ L) (hX : X.pure = true ∨ L = [0, 0] ∨ True) :
    (dIf (dAndT (dTB (d2 (cmpD' .GtE) (dVar 3) (dVar 1))) (dAndT (dTB (d2 (cmpD' .IsNot) (dVar 4) (dCst .non))) (dOrT (dTB (d2 (cmpD' .Is) (dVar 2) (dCst .non))) (dTB (d2 (cmpD' .Lt) (dVar 4) (dVar 2)))))) (dSet 2 (dVar 4)) dPass) L
      [some X, some (.int k), some (Nd g), some (.int q.1), some (Nd q.2)] =
    .nx [some X, some (.int k), some (Nd (if k ≤ q.1 ∧ bel q.2 g = true then q.2 else g)), some (.int q.1), some (Nd q.2)] := by
  by_cases c : k ≤ q.1
  · by_cases n : q.2 = none
    · rw [n]
      simp [c, bel]
    · by_cases m : g = none
      · subst m
        have b : bel q.2 none = true := by
          cases e : q.2 with
          | none => exact absurd e n
          | some x => rfl
        simp [c, nn_nd, n, hL, b]
      · have lt := lt_nd n m
        by_cases b : bel q.2 g = true
        · simp [c, nn_nd, n, m, hL, lt, b]
        · simp [c, nn_nd, n, m, hL, lt, b]
  · simp [c]
theorem least_law (b : Bool) (k : Int) (rs : List Rp) : F__law_least [repX b rs, .int k] = .ok (Nd (lstG k rs none)) [repX b rs, .int k] := by
  have step : ∀ (t : Nat) (q : Rp) (g : Nu), rs[t]? = some q → lstG k (rs.drop t) g = lstG k rs none → lstG k (rs.drop (t + 1)) (if k ≤ q.1 ∧ bel q.2 g = true then q.2 else g) = lstG k rs none := fun t q g hq hg => by
    have hlt : t < rs.length := (List.getElem?_eq_some_iff.mp hq).1
    have hge : rs[t] = q := (List.getElem?_eq_some_iff.mp hq).2
    have hdr : rs.drop t = q :: rs.drop (t + 1) := by rw [List.drop_eq_getElem_cons hlt, hge]
    rw [hdr] at hg
    exact hg
  rw [f__law_least]
  cases b with
  | true =>
    unfold repX
    simp [rds_pure]
    generalize hf : forGo _ _ _ _ _ _ = r
    obtain ⟨s2, rfl, g, x3, x4, e, hg⟩ := for_of hf (fun t s => ∃ (g : Nu) (x3 x4 : Option D), s = [some (.ml (rs.map Rd)), some (.int k), some (Nd g), x3, x4] ∧ lstG k (rs.drop t) g = lstG k rs none)
      ⟨none, none, none, rfl, rfl⟩ (fun t s ⟨g, x3, x4, e, _⟩ => by subst e; exact src_some rfl) (fun t s d ⟨g, x3, x4, e, hg⟩ hd => by
        subst e
        have hd : (rs.map Rd)[t]? = some d := hd
        rw [List.getElem?_map] at hd
        cases hq : rs[t]? with
        | none => rw [hq] at hd; cases hd
        | some q =>
          rw [hq] at hd
          have hd : Rd q = d := by simpa using hd
          subst hd
          refine ⟨[some (.ml (rs.map Rd)), some (.int k), some (Nd g), some (.int q.1), some (Nd q.2)], _, ?_, .inl (least_turn k q g _ x3 x4 _ (by simp) (.inr (.inr trivial))), _, _, _, rfl, step t q g hq hg⟩
          unfold Rd
          simp)
    subst e
    have e3 : (ItD.mk (rs.map Rd) (some (0, rs.map Rd))).ds.length = rs.length := List.length_map _
    rw [e3, List.drop_length] at hg
    have hg : g = lstG k rs none := hg
    subst hg
    simp
  | false =>
    unfold repX
    simp [rds_pure]
    generalize hf : forGo _ _ _ _ _ _ = r
    obtain ⟨s2, rfl, g, x3, x4, e, hg⟩ := for_of hf (fun t s => ∃ (g : Nu) (x3 x4 : Option D), s = [some (.kl (rs.map Rd)), some (.int k), some (Nd g), x3, x4] ∧ lstG k (rs.drop t) g = lstG k rs none)
      ⟨none, none, none, rfl, rfl⟩ (fun t s _ => src_none) (fun t s d ⟨g, x3, x4, e, hg⟩ hd => by
        subst e
        have hd : (rs.map Rd)[t]? = some d := hd
        rw [List.getElem?_map] at hd
        cases hq : rs[t]? with
        | none => rw [hq] at hd; cases hd
        | some q =>
          rw [hq] at hd
          have hd : Rd q = d := by simpa using hd
          subst hd
          refine ⟨[some (.kl (rs.map Rd)), some (.int k), some (Nd g), some (.int q.1), some (Nd q.2)], _, ?_, .inl (least_turn k q g _ x3 x4 _ (by simp) (.inr (.inr trivial))), _, _, _, rfl, step t q g hq hg⟩
          unfold Rd
          simp)
    subst e
    have e3 : (ItD.mk (rs.map Rd) none).ds.length = rs.length := List.length_map _
    rw [e3, List.drop_length] at hg
    have hg : g = lstG k rs none := hg
    subst hg
    simp
end K06

set_option Elab.async false
set_option linter.all false
set_option maxRecDepth 100000
set_option maxHeartbeats 4000000
namespace K06
open PySem L2 Dn
/-! ### whole numbers, names, tuples among data -/
def isI : D → Bool
  | .int _ => true
  | _ => false
def fromI (k : Int) : D → Bool
  | .int i => decide (k ≤ i)
  | _ => false
def nmI : D → Bool
  | .int i => decide (0 ≤ i) && decide (i ≤ 31)
  | _ => false
def tupN (n : Int) : D → Bool
  | .tup ds => decide ((ds.length : Int) = n)
  | _ => false
theorem int_spec {m : Nat} {d : D} (h : dt m d) : F_is_int [d] = .ok (.bl (isI d)) [d] := by
  cases m with
  | zero => exact h.elim
  | succ m =>
    rw [f_is_int]
    rcases h with h | ⟨b, h⟩ | ⟨i, h⟩ | ⟨s, h, _⟩ | ⟨ds, h | h, _⟩ <;> (subst h; simp [isI, isTy])
theorem lint_spec {m : Nat} {d : D} (h : dt m d) : F__law_is_int [d] = .ok (.bl (isI d)) [d] := by
  cases m with
  | zero => exact h.elim
  | succ m =>
    rw [f__law_is_int]
    rcases h with h | ⟨b, h⟩ | ⟨i, h⟩ | ⟨s, h, _⟩ | ⟨ds, h | h, _⟩ <;> (subst h; simp [isI, isTy])
theorem from_spec' {m : Nat} {d : D} (k : Int) (h : dt m d) : F_is_from [d, .int k] = .ok (.bl (fromI k d)) [d, .int k] := by
  have hp := dt_pure h
  have hi := int_spec h
  cases m with
  | zero => exact h.elim
  | succ m =>
    rw [f_is_from]
    rcases h with h | ⟨b, h⟩ | ⟨i, h⟩ | ⟨s, h, _⟩ | ⟨ds, h | h, _⟩ <;> (subst h; simp [hi, isI, fromI])
theorem name_spec {m : Nat} {d : D} (h : dt m d) : F_is_name [d] = .ok (.bl (nmI d)) [d] := by
  have hp := dt_pure h
  have hi := from_spec' 0 h
  cases m with
  | zero => exact h.elim
  | succ m =>
    rw [f_is_name]
    rcases h with h | ⟨b, h⟩ | ⟨i, h⟩ | ⟨s, h, _⟩ | ⟨ds, h | h, _⟩ <;> (subst h; simp [hi, fromI, nmI])
    by_cases z : 0 ≤ i <;> simp [z]
theorem tuple_spec {m : Nat} {d : D} (n : Int) (h : dt m d) : F_is_tuple [d, .int n] = .ok (.bl (tupN n d)) [d, .int n] := by
  cases m with
  | zero => exact h.elim
  | succ m =>
    rw [f_is_tuple]
    rcases h with h | ⟨b, h⟩ | ⟨i, h⟩ | ⟨s, h, _⟩ | ⟨ds, h | h, _⟩ <;> (subst h; simp [tupN, isTy])
/-! ### numbers among data -/
def hd0 (l : List Int) : Int := l.headD 0
def la0 (l : List Int) : Int := l.getLastD 0
def good (l : List Int) : Bool := decide (2 ≤ l.length) && (decide (0 ≤ hd0 l) && (decide (0 ≤ la0 l) && decide (la0 l ≤ 31)))
def isNum : D → Option Nu
  | .non => some none
  | .tup ds => match intsD ds with
    | some l => if good l = true then some (some l) else none
    | none => none
  | _ => none
theorem ints_get : ∀ {ds : List D} {l : List Int}, intsD ds = some l → ds = l.map D.int
  | [], l, e => by cases e; rfl
  | d :: ds, l, e => by
    cases d with
    | int i =>
      have e : (match intsD ds with
        | some ns => some (i :: ns)
        | none => none) = some l := e
      split at e
      · rename_i ns q
        cases e
        rw [ints_get q]; rfl
      · cases e
    | _ => cases e
theorem ints_all : ∀ {ds : List D}, (∀ d ∈ ds, isI d = true) → ∃ l, intsD ds = some l
  | [], _ => ⟨[], rfl⟩
  | d :: ds, h => by
    obtain ⟨l, e⟩ := ints_all fun x hx => h x (List.mem_cons_of_mem _ hx)
    have hd := h d List.mem_cons_self
    cases d with
    | int i => exact ⟨i :: l, by show (match intsD ds with | some ns => some (i :: ns) | none => none) = _; rw [e]⟩
    | _ => cases hd
theorem ints_no {ds : List D} {k : Nat} {d : D} (e : ds[k]? = some d) (h : isI d = false) : intsD ds = none := by
  cases q : intsD ds with
  | none => rfl
  | some l =>
    have := ints_get q
    subst this
    rw [List.getElem?_map] at e
    cases z : l[k]? with
    | none => rw [z] at e; cases e
    | some i => rw [z] at e; cases e; cases h
theorem num_get {d : D} {n : Nu} (h : isNum d = some n) : d = Nd n := by
  unfold isNum at h
  split at h
  · cases h; rfl
  · split at h
    · rename_i l q
      split at h
      · cases h; rw [ints_get q]; rfl
      · cases h
    · cases h
  · cases h
theorem num_sh {m : Nat} {d : D} {n : Nu} (hd : dt m d) (h : isNum d = some n) : sh n := by
  have e := num_get h
  subst e
  intro l hl
  subst hl
  cases m with
  | zero => exact hd.elim
  | succ m =>
    rcases hd with h | ⟨b, h⟩ | ⟨i, h⟩ | ⟨s, h, _⟩ | ⟨ds, h | h, hz, _⟩ <;> first | cases h | skip
    simpa using hz
theorem at_last {l : List Int} (h : l ≠ []) : atI (l.map D.int) (-1) = some (.int (la0 l)) := by
  obtain ⟨r, x, e⟩ : ∃ r x, l = r ++ [x] := ⟨l.dropLast, l.getLast h, (List.dropLast_concat_getLast h).symm⟩
  subst e
  rw [List.map_append, List.map_cons, List.map_nil, atI_last]
  unfold la0
  simp
theorem at_head {l : List Int} (h : l ≠ []) : atI (l.map D.int) 0 = some (.int (hd0 l)) := by
  cases l with
  | nil => exact absurd rfl h
  | cons x r => exact at0
abbrev numE (i : Int) : Ex := ⟨"BadNumber", ["at"], [.int i]⟩
theorem enum_int {k : Nat} {ds : List D} {d : D} (h : (enumD ds)[k]? = some d) : ∃ x, ds[k]? = some x ∧ d = .tup [.int (k : Int), x] := enum_get h
theorem check_spec {m : Nat} {d : D} (h : dt m d) (hn : d ≠ .non) : (∃ n, isNum d = some n ∧ F_check_number [d] = .ok d [d]) ∨ (isNum d = none ∧ ∃ i, F_check_number [d] = .exc (numE i) [d]) := by
  cases m with
  | zero => exact h.elim
  | succ m =>
    have triv : ∀ d : D, d.pure = true → (∀ c, aI c (some d) = fun ss => .ok (.val (.bl (isTy Ty.non c))) ss) → True := fun _ _ _ => trivial
    rcases h with h | ⟨b, h⟩ | ⟨i, h⟩ | ⟨s, h, _⟩ | ⟨ds, h | h, hz, hx⟩
    · exact absurd h hn
    · subst h; exact .inr ⟨rfl, -1, by rw [f_check_number]; simp [isTy]⟩
    · subst h; exact .inr ⟨rfl, -1, by rw [f_check_number]; simp [isTy]⟩
    · subst h; exact .inr ⟨rfl, -1, by rw [f_check_number]; simp [isTy]⟩
    rotate_left
    · subst h; exact .inr ⟨rfl, -1, by rw [f_check_number]; simp [isTy]⟩
    subst h
    by_cases h2 : (ds.length : Int) < 2
    · refine .inr ⟨?_, -1, by rw [f_check_number]; simp [isTy, h2]⟩
      unfold isNum
      dsimp only
      split
      · rename_i l q
        have := ints_get q
        subst this
        rw [if_neg]
        unfold good
        have : ¬ 2 ≤ l.length := by simp at h2; omega
        simp [this]
      · rfl
    · have h2' : ¬ (ds.length < 2) := by omega
      refine (?_ : ∀ res, F_check_number [.tup ds] = res → ((∃ n, isNum (.tup ds) = some n ∧ res = .ok (.tup ds) [.tup ds]) ∨ (isNum (.tup ds) = none ∧ ∃ i, res = .exc (numE i) [.tup ds]))) _ rfl
      intro res hres
      rw [f_check_number] at hres
      simp [isTy, h2] at hres
      generalize hf : forGo _ _ _ _ _ _ = r at hres
      have len3 : ∀ x1 x2 : Option D, ¬ ([some (D.tup ds), x1, x2] : Sl).length ≤ 1 ∧ ¬ ([some (D.tup ds), x1, x2] : Sl).length ≤ 2 := fun _ _ => ⟨by simp, by simp⟩
      rcases for_or_of hf (fun k s => ∃ x1 x2 : Option D, s = [some (.tup ds), x1, x2] ∧ ∀ j x, j < k → ds[j]? = some x → isI x = true)
        (fun k r => ∃ x, ds[k]? = some x ∧ isI x = false ∧ r = .exc (numE (k : Int)) [some (.tup ds), some (.int (k : Int)), some x])
        ⟨_, _, rfl, fun j x z => absurd z (Nat.not_lt_zero _)⟩ (fun k s _ => src_none) (fun k s d ⟨x1, x2, e, hk⟩ hd => by
          subst e
          obtain ⟨x, hx1, ed⟩ := enum_int (show (enumD ds)[k]? = some d from hd)
          subst ed
          have hdx := hx x (List.mem_of_getElem? hx1)
          have pp := dt_pure hdx
          have hi := int_spec hdx
          refine ⟨[some (.tup ds), some (.int (k : Int)), some x], by simp, ?_⟩
          cases q : isI x with
          | true =>
            refine .inl ⟨[some (.tup ds), some (.int (k : Int)), some x], .inl (by simp [pp, hi, q]), _, _, rfl, fun j y hj hy => ?_⟩
            rcases Nat.lt_succ_iff_lt_or_eq.mp hj with h | h
            · exact hk j y h hy
            · subst h; rw [hx1] at hy; cases hy; exact q
          | false =>
            refine .inr ⟨by simp [pp, hi, q, stops], x, hx1, q, by simp [pp, hi, q]⟩) with ⟨s', e1, x1, x2, e2, hk⟩ | ⟨k, _, x, hx1, q, e1⟩
      rotate_left
      · subst e1
        refine .inr ⟨?_, k, by rw [← hres]; simp⟩
        unfold isNum
        dsimp only
        rw [ints_no hx1 q]
      · subst e1; subst e2
        have hall : ∀ d ∈ ds, isI d = true := fun d hd => by
          obtain ⟨j, hj⟩ := List.mem_iff_getElem?.mp hd
          refine hk j d ?_ hj
          show j < (enumD ds).length
          have := (List.getElem?_eq_some_iff.mp hj).1
          unfold enumD
          simpa using this
        obtain ⟨l, hl⟩ := ints_all hall
        have e := ints_get hl
        subst e
        have hne : l ≠ [] := fun z => by subst z; simp at h2'
        have a0 := at_head hne
        have a1 := at_last hne
        have e3 : bltD .len [.tup (l.map D.int)] = some (.int (l.length : Int)) := by simp
        have hlen : 2 ≤ l.length := by simpa using h2'
        have dl : dt 1 (.int (la0 l)) := .inr (.inr (.inl ⟨_, rfl⟩))
        have hnm := name_spec dl
        have hnum : isNum (.tup (l.map D.int)) = if good l = true then some (some l) else none := by
          unfold isNum
          dsimp only
          rw [hl]
        by_cases g0 : hd0 l < 0
        · refine .inr ⟨?_, 0, ?_⟩
          · rw [hnum, if_neg]
            unfold good
            have : ¬ 0 ≤ hd0 l := by omega
            simp [this]
          · rw [← hres]; simp [a0, g0]
        · cases g1 : nmI (.int (la0 l)) with
          | false =>
            refine .inr ⟨?_, (l.length : Int) - 1, ?_⟩
            · rw [hnum, if_neg]
              unfold good
              have : ¬ ((decide (0 ≤ la0 l) && decide (la0 l ≤ 31)) = true) := by
                have : nmI (.int (la0 l)) = (decide (0 ≤ la0 l) && decide (la0 l ≤ 31)) := rfl
                rw [← this, g1]; exact Bool.false_ne_true
              intro z
              simp only [Bool.and_eq_true] at z
              exact this (by rw [Bool.and_eq_true]; exact z.2.2)
            · rw [← hres]; simp [a0, a1, g0, hnm, g1]
          | true =>
            refine .inl ⟨some l, ?_, ?_⟩
            · rw [hnum, if_pos]
              unfold good
              have h3 : (decide (0 ≤ la0 l) && decide (la0 l ≤ 31)) = true := g1
              rw [h3]
              have h4 : 0 ≤ hd0 l := by omega
              simp [hlen, h4]
            · rw [← hres]; simp [a0, a1, g0, hnm, g1]
theorem told_spec {m : Nat} {d : D} (h : dt m d) : F_is_told [d] = .ok (.bl (isNum d).isSome) [d] := by
  have pp := dt_pure h
  rw [f_is_told]
  by_cases hn : d = .non
  · subst hn; simp [isNum]
  · have hnn : isNonD d = false := by cases d <;> first | rfl | exact absurd rfl hn
    rcases check_spec h hn with ⟨n, e1, e2⟩ | ⟨e1, i, e2⟩
    · simp [pp, hnn, e1, e2]
    · simp [pp, hnn, e1, e2]
      rw [trO_yes exm_N]
      simp [pp]
end K06

set_option Elab.async false
set_option linter.all false
set_option maxRecDepth 100000
set_option maxHeartbeats 4000000
namespace K06
open PySem L2 Dn
theorem ne_mnil {m : Nat} {ds : List D} (h : ∀ x ∈ ds, dt m x) (hm : m ≤ 60) (hl : ds.length < 1000) : cmpD' .NotEq (.ml ds) (.ml []) = some (.bl (!ds.isEmpty)) := by
  have e := eq_mnil h hm hl
  show Option.map D.bl (Option.map (fun x => !x) (eqD _ _)) = _
  rw [e]; rfl
theorem eq_mnil' {m : Nat} {ds : List D} (h : ∀ x ∈ ds, dt m x) (hm : m ≤ 60) (hl : ds.length < 1000) : cmpD' .Eq (.ml ds) (.ml []) = some (.bl ds.isEmpty) := by
  have e := eq_mnil h hm hl
  show Option.map D.bl (eqD (.ml ds) (.ml [])) = _
  rw [e]; rfl
theorem eq_tnil' {m : Nat} {ds : List D} (h : dt m (.tup ds)) (hm : m ≤ 64) : cmpD' .Eq (.tup ds) (.tup []) = some (.bl ds.isEmpty) := by
  have e := eq_tnil h hm
  show Option.map D.bl (eqD (.tup ds) (.tup [])) = _
  rw [e]; rfl
theorem ones_dt {acc : List D} (h : ∀ x ∈ acc, x = .int 1) : ∀ x ∈ acc, dt 1 x := fun x hx => .inr (.inr (.inl ⟨1, h x hx⟩))
theorem comp_ints {m : Nat} {ds : List D} (hz : ds.length < 1000) (hx : ∀ x ∈ ds, dt m x) : ∃ acc : List D, (∀ x ∈ acc, x = .int 1) ∧ acc.length < 1000 ∧ (acc = [] ↔ ∀ x ∈ ds, isI x = true) ∧
    dLc (dSeqIt (dFrz (dVar 0))) (.nm 1) (dNotT (dTr (dCall 1 F__law_is_int (foldA [(dVar 1)])))) (dFrz (dCst (.int 1))) [1] [some (.tup ds), none] = .ok (.val (.ml acc)) [some (.tup ds), none] := by
  simp
  generalize hf : lcGo _ _ _ _ _ _ _ _ = r
  obtain ⟨acc, s, rfl, x1, e, h1, h2, h3, h4⟩ := lc_of hf (fun j acc s => ∃ x1 : Option D, s = [some (.tup ds), x1] ∧ (∀ d, x1 = some d → d.pure = true) ∧ (∀ x ∈ acc, x = .int 1) ∧ acc.length ≤ j ∧ (acc = [] ↔ ∀ x ∈ ds.take j, isI x = true))
    ⟨_, rfl, fun d z => (by cases z), fun x z => (nomatch z), Nat.le_refl _, by simp⟩ (fun j acc s ⟨x1, e, p1, _⟩ => by
      subst e
      refine ⟨?_, src_none⟩
      cases x1 with
      | none => rfl
      | some b => simp [p1 b rfl]) (fun j acc s d ⟨x1, e, p1, h1, h2, h3⟩ hd => by
      subst e
      have hd : ds[j]? = some d := hd
      have hj := (List.getElem?_eq_some_iff.mp hd).1
      have hdx := hx d (List.mem_of_getElem? hd)
      have pp := dt_pure hdx
      have hi := lint_spec hdx
      have et : ds.take (j + 1) = ds.take j ++ [d] := by rw [List.take_succ, hd]; rfl
      refine ⟨[some (.tup ds), some d], !isI d, [some (.tup ds), some d], by simp, by simp [pp, hi], fun hb => ?_, fun hb => ?_⟩
      · have hb : isI d = false := by simpa using hb
        refine ⟨.int 1, [some (.tup ds), some d], by simp, rfl, by rw [sizeLine_eq]; omega, some d, rfl, fun q z => (by cases z; exact pp), fun x hx => ?_, by simp; omega, ?_⟩
        · rcases List.mem_append.mp hx with h | h
          · exact h1 x h
          · simpa using h
        · constructor
          · intro z; simp at z
          · intro z
            have := z d (by rw [et]; simp)
            rw [hb] at this; cases this
      · have hb : isI d = true := by simpa using hb
        refine ⟨some d, rfl, fun q z => (by cases z; exact pp), h1, by omega, ?_⟩
        rw [h3, et]
        constructor
        · intro z x hx
          rcases List.mem_append.mp hx with h | h
          · exact z x h
          · have : x = d := by simpa using h
            rw [this]; exact hb
        · intro z x hx
          exact z x (List.mem_append_left _ hx))
  subst e
  have hl : ds.take (({ ds := ds, src := none } : ItD).ds.length) = ds := List.take_length
  rw [hl] at h4
  have h3' : acc.length ≤ ds.length := h3
  exact ⟨acc, h2, by omega, h4, by simp⟩
theorem ltold_spec {m : Nat} {d : D} (h : dt m d) : F__law_is_told [d] = .ok (.bl (isNum d).isSome) [d] := by
  cases m with
  | zero => exact h.elim
  | succ m =>
    have hdt := h
    rcases h with h | ⟨b, h⟩ | ⟨i, h⟩ | ⟨s, h, _⟩ | ⟨ds, h | h, hz, hx⟩
    · subst h; rw [f__law_is_told]; simp [isNum]
    · subst h; rw [f__law_is_told]; simp [isNum, isTy]
    · subst h; rw [f__law_is_told]; simp [isNum, isTy]
    · subst h; rw [f__law_is_told]; simp [isNum, isTy]
    rotate_left
    · subst h; rw [f__law_is_told]; simp [isNum, isTy]
    subst h
    obtain ⟨acc, a1, a2, a3, a4⟩ := comp_ints hz hx
    have ne := ne_mnil (ones_dt a1) (by omega) a2
    rw [f__law_is_told]
    by_cases h2 : ds.length < 2
    · have : (isNum (.tup ds)).isSome = false := by
        unfold isNum
        dsimp only
        split
        · rename_i l q
          have := ints_get q
          subst this
          rw [if_neg]
          · rfl
          · unfold good
            have : ¬ 2 ≤ l.length := by simp at h2; omega
            simp [this]
        · rfl
      rw [this]
      have h2i : (ds.length : Int) < 2 := by omega
      simp [isTy, h2i, -ev_lc]
    · have h2i : ¬ (ds.length : Int) < 2 := by omega
      cases ea : acc with
      | cons x r =>
        have hex : ¬ ∀ x ∈ ds, isI x = true := fun z => by
          have := a3.mpr z
          rw [ea] at this; cases this
        have hnone : intsD ds = none := by
          cases q : intsD ds with
          | none => rfl
          | some l =>
            exfalso
            apply hex
            have := ints_get q
            subst this
            intro x hx
            obtain ⟨i, _, e⟩ := List.mem_map.mp hx
            subst e; rfl
        have : (isNum (.tup ds)).isSome = false := by
          unfold isNum
          dsimp only
          rw [hnone]; rfl
        rw [this]
        rw [ea] at ne a4
        simp [isTy, h2i, -ev_lc, -iv_seq, a4, ne]
      | nil =>
        have hall := a3.mp ea
        obtain ⟨l, hl⟩ := ints_all hall
        have e := ints_get hl
        subst e
        have hne : l ≠ [] := fun z => by subst z; simp at h2
        have i0 := at_head hne
        have i1 := at_last hne
        rw [ea] at ne a4
        have hlen : 2 ≤ l.length := by simpa using h2
        have hnum : (isNum (.tup (l.map D.int))).isSome = good l := by
          unfold isNum
          dsimp only
          rw [hl]
          dsimp only
          by_cases g : good l = true
          · rw [if_pos g, g]; rfl
          · rw [if_neg g]; simp at g; rw [g]; rfl
        rw [hnum]
        have h2' : ¬ (l.length : Int) < 2 := by omega
        simp [isTy, h2', -ev_lc, -iv_seq, a4, ne, i0, i1]
        unfold good
        by_cases g0 : 0 ≤ K06.hd0 l <;> by_cases g1 : 0 ≤ la0 l <;> simp [g0, g1, hlen]
end K06

set_option Elab.async false
set_option linter.all false
set_option maxRecDepth 100000
set_option maxHeartbeats 4000000
namespace K06
open PySem L2 Dn
/-! ### steps -/
def stepN : D → Option Rp
  | .tup [.int s, n] => if 0 ≤ s then (isNum n).map fun q => (s, q) else none
  | _ => none
def firstB (h : Int) (r : Rp) : Bool := if h = 0 ∧ r.1 = 0 then r.2.isSome else decide (max h 1 ≤ r.1)
def okAt (h t : Int) (ds : List D) (k : Nat) : Bool := match (ds[k]?).bind stepN with
  | some r => (if k = 0 then firstB h r else match (ds[k - 1]?).bind stepN with
      | some q => decide (q.1 < r.1) && bel q.2 r.2
      | none => false) && (decide (k + 1 < ds.length) || decide (r.1 = t))
  | none => false
theorem step_get {d : D} {r : Rp} (h : stepN d = some r) : d = Rd r ∧ 0 ≤ r.1 := by
  unfold stepN at h
  split at h
  · rename_i s n
    split at h
    · rename_i hs
      cases q : isNum n with
      | none => rw [q] at h; cases h
      | some m =>
        rw [q] at h; cases h
        rw [num_get q]
        exact ⟨rfl, hs⟩
    · cases h
  · cases h
theorem step_dt {m : Nat} {d : D} {r : Rp} (hd : dt m d) (h : stepN d = some r) : sh r.2 := by
  unfold stepN at h
  split at h
  · rename_i s n
    split at h
    · cases q : isNum n with
      | none => rw [q] at h; cases h
      | some k =>
        rw [q] at h; cases h
        cases m with
        | zero => exact hd.elim
        | succ m =>
          rcases hd with h | ⟨b, h⟩ | ⟨i, h⟩ | ⟨s, h, _⟩ | ⟨ds, h | h, hz, hx⟩ <;> first | cases h | skip
          exact num_sh (hx n (by simp)) q
    · cases h
  · cases h
theorem ok_get {h t : Int} {ds : List D} {k : Nat} (e : okAt h t ds k = true) : ∃ d r, ds[k]? = some d ∧ stepN d = some r ∧ d = Rd r := by
  unfold okAt at e
  split at e
  · rename_i r q
    cases z : ds[k]? with
    | none => rw [z] at q; cases q
    | some d =>
      rw [z] at q
      exact ⟨d, r, rfl, q, (step_get q).1⟩
  · cases e
/-- what a step may be -/
theorem step_cases {m : Nat} {d : D} (h : dt m d) : (∃ r, stepN d = some r ∧ d = Rd r ∧ 0 ≤ r.1 ∧ isNum (Nd r.2) = some r.2) ∨ (stepN d = none ∧ (tupN 2 d = false ∨ ∃ x y m', d = .tup [x, y] ∧ dt m' x ∧ dt m' y ∧ (fromI 0 x = false ∨ (fromI 0 x = true ∧ isNum y = none)))) := by
  cases m with
  | zero => exact h.elim
  | succ m =>
    rcases h with h | ⟨b, h⟩ | ⟨i, h⟩ | ⟨s, h, _⟩ | ⟨ds, h | h, hz, hx⟩
    · subst h; exact .inr ⟨rfl, .inl rfl⟩
    · subst h; exact .inr ⟨rfl, .inl rfl⟩
    · subst h; exact .inr ⟨rfl, .inl rfl⟩
    · subst h; exact .inr ⟨rfl, .inl rfl⟩
    · subst h
      match ds, hx with
      | [x, y], hx =>
        have dx := hx x (by simp)
        have dy := hx y (by simp)
        cases q : fromI 0 x with
        | false =>
          refine .inr ⟨?_, .inr ⟨x, y, m, rfl, dx, dy, .inl q⟩⟩
          unfold stepN
          split
          · rename_i s n e
            cases e
            rw [if_neg]
            intro z
            have : fromI 0 (.int s) = true := decide_eq_true z
            rw [this] at q; cases q
          · rfl
        | true =>
          obtain ⟨s, e⟩ : ∃ s, x = .int s := by cases x <;> first | cases q | exact ⟨_, rfl⟩
          subst e
          have hs : 0 ≤ s := of_decide_eq_true q
          cases w : isNum y with
          | none => exact .inr ⟨by unfold stepN; dsimp only; rw [if_pos hs, w]; rfl, .inr ⟨.int s, y, m, rfl, dx, dy, .inr ⟨q, w⟩⟩⟩
          | some n =>
            have ey := num_get w
            subst ey
            exact .inl ⟨(s, n), by unfold stepN; dsimp only; rw [if_pos hs, w]; rfl, rfl, hs, w⟩
      | [], _ => exact .inr ⟨rfl, .inl rfl⟩
      | [x], _ => exact .inr ⟨by cases x <;> rfl, .inl rfl⟩
      | x :: y :: z :: r, _ =>
        refine .inr ⟨by cases x <;> rfl, .inl ?_⟩
        show decide ((((x :: y :: z :: r).length : Nat) : Int) = 2) = false
        refine decide_eq_false fun e => ?_
        simp at e
        omega
    · subst h; exact .inr ⟨rfl, .inl rfl⟩
theorem frz_p {d : D} (h : d.pure = true) : frz (.val d) = .val d := by cases d <;> first | rfl | cases h
theorem ix_rd0 (r : Rp) : ixD (Rd r) (.int 0) = some (.int r.1) := by unfold Rd; rw [Dn.ix_tup, at0]; rfl
theorem ix_rd1 (r : Rp) : ixD (Rd r) (.int 1) = some (Nd r.2) := by unfold Rd; rw [Dn.ix_tup, at1]; simp
theorem at_nat {ds : List D} {k : Nat} {d : D} (e : ds[k]? = some d) : atI ds (k : Int) = some d := atI_pos (by omega) (by simpa using e)
theorem first_spec (h : Int) (r : Rp) : F_may_be_first [.int h, Rd r] = .ok (.bl (firstB h r)) [.int h, Rd r] := by
  rw [f_may_be_first]
  unfold firstB
  have e : Rd r = .tup [.int r.1, Nd r.2] := rfl
  rw [e]
  have hn : isNonD (Nd r.2) = !r.2.isSome := by cases r.2 <;> rfl
  by_cases a : h = 0 <;> by_cases b : r.1 = 0 <;> simp [a, b, hn]
theorem rd_not2 {d : D} {m : Nat} (h : dt m d) (e : tupN 2 d = false) : ∃ ss : Bool, True := ⟨true, trivial⟩
/-- one step, by the program -/
theorem is_step_spec {m : Nat} {ds : List D} {h t : Int} {k : Nat} {d : D} (hz : ds.length < 1000) (hx : ∀ x ∈ ds, dt m x) (hk : ds[k]? = some d) (hp : ∀ j, j + 1 = k → okAt h t ds j = true) :
    F_is_step [.tup ds, .int k, .int h, .int t] = .ok (.bl (okAt h t ds k)) [.tup ds, .int k, .int h, .int t] := by
  have hd := hx d (List.mem_of_getElem? hk)
  have pp := dt_pure hd
  have hkl := (List.getElem?_eq_some_iff.mp hk).1
  have e0 := at_nat hk
  have et := tuple_spec 2 hd
  rw [f_is_step]
  rcases step_cases hd with ⟨r, s1, s2, s3, s4⟩ | ⟨s1, s2⟩
  rotate_left
  · have ho : okAt h t ds k = false := by
      unfold okAt
      rw [hk]
      show (match stepN d with | some r => _ | none => false) = false
      rw [s1]
    rw [ho]
    rcases s2 with s2 | ⟨x, y, m', e, dx, dy, s3⟩
    · simp [e0, pp, et, s2]
    · subst e
      have px := dt_pure dx
      have py := dt_pure dy
      have zx := frz_p px
      have zy := frz_p py
      have fx := from_spec' 0 dx
      have ty := told_spec dy
      have e2 : tupN 2 (.tup [x, y]) = true := rfl
      rcases s3 with s3 | ⟨s3, s4⟩
      · simp [e0, et, e2, px, zx, fx, s3]
      · simp [e0, et, e2, px, py, zx, zy, fx, s3, ty, s4]
  · subst s2
    have dn : dt m (.int r.1) := by
      cases m with
      | zero => exact hd.elim
      | succ m => exact .inr (.inr (.inl ⟨_, rfl⟩))
    have dy : ∃ m', dt m' (Nd r.2) := by
      cases m with
      | zero => exact hd.elim
      | succ m =>
        rcases hd with h | ⟨b, h⟩ | ⟨i, h⟩ | ⟨s, h, _⟩ | ⟨ds, h | h, hz, hx⟩ <;> first | cases h | skip
        exact ⟨m, hx (Nd r.2) (by simp)⟩
    obtain ⟨m', dy⟩ := dy
    have fx := from_spec' 0 dn
    have ty := told_spec dy
    have e2 : tupN 2 (Rd r) = true := rfl
    have e3 : fromI 0 (.int r.1) = true := decide_eq_true s3
    have i0 := ix_rd0 r
    have i1 := ix_rd1 r
    have e4 : bltD .len [.tup ds] = some (.int (ds.length : Int)) := by simp
    have lst : (decide ((k : Int) < (ds.length : Int) - 1) || decide (r.1 = t)) = (decide (k + 1 < ds.length) || decide (r.1 = t)) := by
      congr 1
      rw [decide_eq_decide]
      omega
    cases k with
    | zero =>
      have hfr := first_spec h r
      have ho : okAt h t ds 0 = (firstB h r && (decide (0 + 1 < ds.length) || decide (r.1 = t))) := by
        unfold okAt
        rw [hk]
        show (match stepN (Rd r) with | some r => _ | none => false) = _
        rw [s1]
        rfl
      have e0' : atI ds 0 = some (Rd r) := e0
      have lst' : (decide ((0 : Int) < (ds.length : Int) - 1) || decide (r.1 = t)) = (decide (0 + 1 < ds.length) || decide (r.1 = t)) := lst
      rw [ho, ← lst']
      simp [e0', et, e2, i0, i1, fx, e3, ty, s4, hfr]
      cases firstB h r <;> by_cases z : (1 : Int) < (ds.length : Int) <;> simp [z, i0]
    | succ j =>
      obtain ⟨d', q, hq1, hq2, hq3⟩ := ok_get (hp j rfl)
      subst hq3
      have ho : okAt h t ds (j + 1) = ((decide (q.1 < r.1) && bel q.2 r.2) && (decide (j + 1 + 1 < ds.length) || decide (r.1 = t))) := by
        unfold okAt
        rw [hk]
        show (match stepN (Rd r) with | some r => _ | none => false) = _
        rw [s1]
        show ((if j + 1 = 0 then _ else match (ds[j + 1 - 1]?).bind stepN with | some q => _ | none => false) && _) = _
        rw [if_neg (Nat.succ_ne_zero j), Nat.add_sub_cancel, hq1]
        show ((match stepN (Rd q) with | some q => _ | none => false) && _) = _
        rw [hq2]
      rw [ho, ← lst]
      have ej : ((j + 1 : Nat) : Int) - 1 = (j : Int) := by omega
      have ez : ((j + 1 : Nat) : Int) ≠ 0 := by omega
      have e5 := at_nat hq1
      have j0 := ix_rd0 q
      have j1 := ix_rd1 q
      have hb := below_spec q.2 r.2
      simp [-Int.natCast_add, e0, et, e2, i0, i1, fx, e3, ty, s4, ez, ej, e5, j0, j1, hb]
      by_cases z : q.1 < r.1 <;> cases bel q.2 r.2 <;> by_cases w : ((j + 1 : Nat) : Int) < (ds.length : Int) - 1 <;> simp [-Int.natCast_add, z, w, i0]
end K06

set_option Elab.async false
set_option linter.all false
set_option maxRecDepth 100000
set_option maxHeartbeats 4000000
namespace K06
open PySem L2 Dn
theorem isi_no {m : Nat} {d : D} (h : dt m d) (e : ∀ ds, d ≠ .tup ds) : ∀ ss : Sl, aI .tuple (some d) ss = .ok (.val (.bl false)) ss := fun ss => by
  cases m with
  | zero => exact h.elim
  | succ m => rcases h with h | ⟨b, h⟩ | ⟨i, h⟩ | ⟨s, h, _⟩ | ⟨ds, h | h, hz, hx⟩ <;> first | exact absurd h (e _) | (subst h; rfl)
/-- one step, by the law -/
theorem stands_spec {m : Nat} {ds : List D} {h t : Int} {k : Nat} {d : D} (hz : ds.length < 1000) (hx : ∀ x ∈ ds, dt m x) (hk : ds[k]? = some d) (hp : ∀ j, j + 1 = k → okAt h t ds j = true) :
    F__law_stands [.tup ds, .int k, .int h, .int t] = .ok (.bl (okAt h t ds k)) [.tup ds, .int k, .int h, .int t] := by
  have hd := hx d (List.mem_of_getElem? hk)
  have pp := dt_pure hd
  have hkl := (List.getElem?_eq_some_iff.mp hk).1
  have e0 := at_nat hk
  rw [f__law_stands]
  rcases step_cases hd with ⟨r, s1, s2, s3, s4⟩ | ⟨s1, s2⟩
  rotate_left
  · have ho : okAt h t ds k = false := by
      unfold okAt
      rw [hk]
      show (match stepN d with | some r => _ | none => false) = false
      rw [s1]
    rw [ho]
    rcases s2 with s2 | ⟨x, y, m', e, dx, dy, s3⟩
    · by_cases ht : ∃ es, d = .tup es
      · obtain ⟨es, ht⟩ := ht
        subst ht
        have hl : ¬ (es.length : Int) = 2 := fun z => by
          have : tupN 2 (.tup es) = true := decide_eq_true z
          rw [this] at s2; cases s2
        simp [e0, hl]
      · have := isi_no hd (fun es z => ht ⟨es, z⟩)
        simp [e0, pp, this]
    · subst e
      have px := dt_pure dx
      have py := dt_pure dy
      have zx := frz_p px
      have zy := frz_p py
      have ix := lint_spec dx
      have ty := ltold_spec dy
      rcases s3 with s3 | ⟨s3, s4⟩
      · cases q : isI x with
        | false => simp [e0, px, zx, ix, q]
        | true =>
          obtain ⟨s, e⟩ : ∃ s, x = .int s := by cases x <;> first | exact ⟨_, rfl⟩ | cases q
          subst e
          have hs : s < 0 := by
            have := of_decide_eq_false (show decide (0 ≤ s) = false from s3)
            omega
          simp [e0, ix, q, hs]
      · obtain ⟨s, e⟩ : ∃ s, x = .int s := by cases x <;> first | exact ⟨_, rfl⟩ | cases s3
        subst e
        have hs : ¬ s < 0 := by
          have := of_decide_eq_true (show decide (0 ≤ s) = true from s3)
          omega
        have q : isI (.int s) = true := rfl
        simp [e0, ix, q, hs, py, zy, ty, s4]
  · subst s2
    have dn : dt m (.int r.1) := by
      cases m with
      | zero => exact hd.elim
      | succ m => exact .inr (.inr (.inl ⟨_, rfl⟩))
    have dy : ∃ m', dt m' (Nd r.2) := by
      cases m with
      | zero => exact hd.elim
      | succ m =>
        rcases hd with h | ⟨b, h⟩ | ⟨i, h⟩ | ⟨s, h, _⟩ | ⟨ds, h | h, hz, hx⟩ <;> first | cases h | skip
        exact ⟨m, hx (Nd r.2) (by simp)⟩
    obtain ⟨m', dy⟩ := dy
    have ix := lint_spec dn
    have ty := ltold_spec dy
    have q0 : isI (.int r.1) = true := rfl
    have hs : ¬ r.1 < 0 := by omega
    have i0 := ix_rd0 r
    have i1 := ix_rd1 r
    have hti : ∀ ss : Sl, aI .tuple (some (Rd r)) ss = .ok (.val (.bl true)) ss := fun ss => rfl
    have hln : bltD .len [Rd r] = some (.int 2) := rfl
    have e4 : bltD .len [.tup ds] = some (.int (ds.length : Int)) := by simp
    have lst : (decide (k + 1 < ds.length) || decide (r.1 = t)) = (!(decide ((k : Int) + 1 = (ds.length : Int)) && !decide (r.1 = t))) := by
      by_cases a : k + 1 < ds.length
      · have b : ¬ (k : Int) + 1 = (ds.length : Int) := by omega
        simp [a, b]
      · have b : (k : Int) + 1 = (ds.length : Int) := by omega
        simp [a, b]
    have hn : isNonD (Nd r.2) = !r.2.isSome := by cases r.2 <;> rfl
    cases k with
    | zero =>
      have ho : okAt h t ds 0 = (firstB h r && (decide (0 + 1 < ds.length) || decide (r.1 = t))) := by
        unfold okAt
        rw [hk]
        show (match stepN (Rd r) with | some r => _ | none => false) = _
        rw [s1]
        rfl
      have e0' : atI ds 0 = some (Rd r) := e0
      have lst' : (decide (0 + 1 < ds.length) || decide (r.1 = t)) = (!(decide ((1 : Int) = (ds.length : Int)) && !decide (r.1 = t))) := lst
      have hfb : firstB h r = (decide (max h 1 ≤ r.1) || (decide (r.1 = 0) && (decide (h = 0) && r.2.isSome))) := by
        unfold firstB
        by_cases a : h = 0 <;> by_cases b : r.1 = 0
        · rw [if_pos ⟨a, b⟩]
          have m0 : ¬ (max (0 : Int) 1 ≤ 0) := by decide
          simp [a, b, m0]
        · rw [if_neg fun z => b z.2]; simp [b]
        · rw [if_neg fun z => a z.1]; simp [a]
        · rw [if_neg fun z => a z.1]; simp [a]
      rw [ho, lst', hfb]
      simp [e0', i0, i1, hti, hln, ix, q0, hs, ty, s4, hn]
      have tf : ∀ p : Prop, p = True ∨ p = False := fun p => (Classical.em p).imp eq_true eq_false
      rcases tf ((1 : Int) = (ds.length : Int)) with w | w <;> rcases tf (r.1 = t) with w2 | w2 <;> rcases tf (max h 1 ≤ r.1) with a | a <;> rcases tf (r.1 = 0) with b | b <;> rcases tf (h = 0) with c | c <;> simp [w, w2, a, b, c, i0, i1, hn]
    | succ j =>
      obtain ⟨d', q, hq1, hq2, hq3⟩ := ok_get (hp j rfl)
      subst hq3
      have ho : okAt h t ds (j + 1) = ((decide (q.1 < r.1) && bel q.2 r.2) && (decide (j + 1 + 1 < ds.length) || decide (r.1 = t))) := by
        unfold okAt
        rw [hk]
        show (match stepN (Rd r) with | some r => _ | none => false) = _
        rw [s1]
        show ((if j + 1 = 0 then _ else match (ds[j + 1 - 1]?).bind stepN with | some q => _ | none => false) && _) = _
        rw [if_neg (Nat.succ_ne_zero j), Nat.add_sub_cancel, hq1]
        show ((match stepN (Rd q) with | some q => _ | none => false) && _) = _
        rw [hq2]
      rw [ho, lst]
      have ej : ((j + 1 : Nat) : Int) - 1 = (j : Int) := by omega
      have ez : (0 : Int) < ((j + 1 : Nat) : Int) := by omega
      have e5 := at_nat hq1
      have j0 := ix_rd0 q
      have j1 := ix_rd1 q
      have hb := above_spec r.2 q.2
      simp [-Int.natCast_add, e0, i0, i1, hti, hln, ix, q0, hs, ty, s4]
      have tf : ∀ p : Prop, p = True ∨ p = False := fun p => (Classical.em p).imp eq_true eq_false
      rcases tf (((j + 1 : Nat) : Int) + 1 = (ds.length : Int)) with w | w <;> rcases tf (r.1 = t) with w2 | w2 <;> rcases tf (q.1 < r.1) with z | z <;> cases hbb : bel q.2 r.2 <;> simp [-Int.natCast_add, w, w2, z, i0, i1, ez, ej, e5, j0, j1, hb, hbb]
end K06

set_option Elab.async false
set_option linter.all false
set_option maxRecDepth 100000
set_option maxHeartbeats 4000000
namespace K06
open PySem L2 Dn
theorem made_spec (h t : Int) (st : List Rp) (X : D) (hp : X.pure = true) (hX : bltD .list [X] = some (.ml (st.map Rd))) : F_made_row [.int h, .int t, X] = .ok (row h t st) [.int h, .int t, X] := by
  rw [f_made_row]
  simp [init_spec, hp, hX, sf_steps]
theorem list_tup (st : List Rp) : bltD .list [.tup (st.map Rd)] = some (.ml (st.map Rd)) := if_pos (rds_pure st)
theorem list_kl (st : List Rp) : bltD .list [.kl (st.map Rd)] = some (.ml (st.map Rd)) := if_pos (rds_pure st)
theorem list_lst (st : List Rp) : bltD .list [.lst (st.map Rd)] = some (.ml (st.map Rd)) := if_pos (rds_pure st)
theorem copied_spec (h t : Int) (st : List Rp) : F_Row_copied [rowV h t st] = .ok (row h t st) [rowV h t st] := by
  have e := made_spec h t st (.kl (st.map Rd)) rfl (list_kl st)
  have hc : (row h t st).clo = true := by
    unfold row
    simp [rds_clo]
  rw [f_Row_copied]
  simp [e, hc]
abbrev rowE (i : Int) : Ex := ⟨"BadRow", ["at"], [.int i]⟩
structure Val (h t : Int) (st : List Rp) : Prop where
  h0 : 0 ≤ h
  ht : h ≤ t
  ne : 0 < t → st ≠ []
  ok : ∀ k, k < st.length → okAt h t (st.map Rd) k = true
theorem all_steps {h t : Int} {ds : List D} (hk : ∀ k, k < ds.length → okAt h t ds k = true) : ∃ st : List Rp, ds = st.map Rd := by
  have : ∀ d ∈ ds, ∃ r, d = Rd r := fun d hd => by
    obtain ⟨k, e⟩ := List.mem_iff_getElem?.mp hd
    obtain ⟨d', r, e1, _, e2⟩ := ok_get (hk k (List.getElem?_eq_some_iff.mp e).1)
    rw [e] at e1; cases e1
    exact ⟨r, e2⟩
  clear hk
  induction ds with
  | nil => exact ⟨[], rfl⟩
  | cons d ds ih =>
    obtain ⟨r, e⟩ := this d List.mem_cons_self
    obtain ⟨st, e2⟩ := ih fun x hx => this x (List.mem_cons_of_mem _ hx)
    exact ⟨r :: st, by rw [e, e2]; rfl⟩
theorem from_cases {m : Nat} {x : D} (k : Int) (h : dt m x) : (∃ s, x = .int s ∧ k ≤ s ∧ fromI k x = true) ∨ (fromI k x = false ∧ (isI x = false ∨ ∃ s, x = .int s ∧ s < k)) := by
  by_cases q : ∃ s, x = .int s
  · obtain ⟨s, e⟩ := q
    subst e
    by_cases z : k ≤ s
    · exact .inl ⟨s, rfl, z, decide_eq_true z⟩
    · exact .inr ⟨decide_eq_false z, .inr ⟨s, rfl, by omega⟩⟩
  · right
    cases x <;> first | exact absurd ⟨_, rfl⟩ q | exact ⟨rfl, .inl rfl⟩
/-- the loops over the steps -/
theorem loop_row {m : Nat} {ds : List D} {h t : Int} {v : D} {x4 : Option D} (hz : ds.length < 1000) (hx : ∀ x ∈ ds, dt m x) {r : RS}
    (hf : forGo (.nm 4) (dIf (dNotT (dTr (dCall 4 F_is_step (foldA [(dVar 3), (dVar 4), (dVar 1), (dVar 2)])))) (dRaise "BadRow" "at" (dFrz (d2 (binD .Add) (dCst (.int 2)) (dVar 4)))) dPass) ⟨rngD 0 ds.length, none⟩ [] (rngD 0 ds.length) [some v, some (.int h), some (.int t), some (.tup ds), x4] = r) :
    (∃ y, r = .nx [some v, some (.int h), some (.int t), some (.tup ds), y] ∧ ∀ k, k < ds.length → okAt h t ds k = true) ∨ ∃ k, k < ds.length ∧ (∀ j, j < k → okAt h t ds j = true) ∧ okAt h t ds k = false ∧ r = .exc (rowE (2 + (k : Int))) [some v, some (.int h), some (.int t), some (.tup ds), some (.int k)] := by
  rcases for_or_of (it := ⟨rngD 0 ds.length, none⟩) hf (fun k s => k ≤ ds.length ∧ ∃ y : Option D, s = [some v, some (.int h), some (.int t), some (.tup ds), y] ∧ ∀ j, j < k → okAt h t ds j = true)
    (fun k r => (∀ j, j < k → okAt h t ds j = true) ∧ okAt h t ds k = false ∧ r = .exc (rowE (2 + (k : Int))) [some v, some (.int h), some (.int t), some (.tup ds), some (.int k)])
    ⟨Nat.zero_le _, _, rfl, fun j z => absurd z (Nat.not_lt_zero _)⟩ (fun k s _ => src_none) (fun k s d ⟨hk, y, e, hj⟩ hd => by
      subst e
      obtain ⟨hkl, ed⟩ := rng_get (show (rngD 0 ds.length)[k]? = some d from hd)
      rw [Int.zero_add] at ed
      subst ed
      have hs := is_step_spec (h := h) (t := t) hz hx (List.getElem?_eq_getElem hkl) fun j ej => hj j (by omega)
      refine ⟨[some v, some (.int h), some (.int t), some (.tup ds), some (.int (k : Int))], by simp, ?_⟩
      cases q : okAt h t ds k with
      | true =>
        refine .inl ⟨[some v, some (.int h), some (.int t), some (.tup ds), some (.int (k : Int))], .inl (by simp [hs, q]), hkl, _, rfl, fun j hj2 => ?_⟩
        rcases Nat.lt_succ_iff_lt_or_eq.mp hj2 with z | z
        · exact hj j z
        · subst z; exact q
      | false => exact .inr ⟨by simp [hs, q, stops], hj, rfl, by simp [hs, q]⟩) with ⟨s', e1, _, y, e2, hk⟩ | ⟨k, hkl, hj, hk, e1⟩
  · subst e2
    have hl : (rngD 0 ds.length).length = ds.length := by simp [rngD]
    rw [show ({ ds := rngD 0 ds.length, src := none } : ItD).ds.length = ds.length from hl] at hk
    exact .inl ⟨y, e1, hk⟩
  · have hl : (rngD 0 ds.length).length = ds.length := by simp [rngD]
    rw [show ({ ds := rngD 0 ds.length, src := none } : ItD).ds.length = ds.length from hl] at hkl
    exact .inr ⟨k, hkl, hj, hk, e1⟩
theorem loop_law {m : Nat} {ds : List D} {h t : Int} {v : D} {x4 : Option D} (hz : ds.length < 1000) (hx : ∀ x ∈ ds, dt m x) {r : RS}
    (hf : forGo (.nm 4) (dIf (dNotT (dTr (dCall 4 F__law_stands (foldA [(dVar 3), (dVar 4), (dVar 1), (dVar 2)])))) (dRet (d2 (binD .Add) (dCst (.int 2)) (dVar 4))) dPass) ⟨rngD 0 ds.length, none⟩ [] (rngD 0 ds.length) [some v, some (.int h), some (.int t), some (.tup ds), x4] = r) :
    (∃ y, r = .nx [some v, some (.int h), some (.int t), some (.tup ds), y] ∧ ∀ k, k < ds.length → okAt h t ds k = true) ∨ ∃ k, k < ds.length ∧ (∀ j, j < k → okAt h t ds j = true) ∧ okAt h t ds k = false ∧ r = .rt (.int (2 + (k : Int))) [some v, some (.int h), some (.int t), some (.tup ds), some (.int k)] := by
  rcases for_or_of (it := ⟨rngD 0 ds.length, none⟩) hf (fun k s => k ≤ ds.length ∧ ∃ y : Option D, s = [some v, some (.int h), some (.int t), some (.tup ds), y] ∧ ∀ j, j < k → okAt h t ds j = true)
    (fun k r => (∀ j, j < k → okAt h t ds j = true) ∧ okAt h t ds k = false ∧ r = .rt (.int (2 + (k : Int))) [some v, some (.int h), some (.int t), some (.tup ds), some (.int k)])
    ⟨Nat.zero_le _, _, rfl, fun j z => absurd z (Nat.not_lt_zero _)⟩ (fun k s _ => src_none) (fun k s d ⟨hk, y, e, hj⟩ hd => by
      subst e
      obtain ⟨hkl, ed⟩ := rng_get (show (rngD 0 ds.length)[k]? = some d from hd)
      rw [Int.zero_add] at ed
      subst ed
      have hs := stands_spec (h := h) (t := t) hz hx (List.getElem?_eq_getElem hkl) fun j ej => hj j (by omega)
      refine ⟨[some v, some (.int h), some (.int t), some (.tup ds), some (.int (k : Int))], by simp, ?_⟩
      cases q : okAt h t ds k with
      | true =>
        refine .inl ⟨[some v, some (.int h), some (.int t), some (.tup ds), some (.int (k : Int))], .inl (by simp [hs, q]), hkl, _, rfl, fun j hj2 => ?_⟩
        rcases Nat.lt_succ_iff_lt_or_eq.mp hj2 with z | z
        · exact hj j z
        · subst z; exact q
      | false => exact .inr ⟨by simp [hs, q, stops], hj, rfl, by simp [hs, q]⟩) with ⟨s', e1, _, y, e2, hk⟩ | ⟨k, hkl, hj, hk, e1⟩
  · subst e2
    have hl : (rngD 0 ds.length).length = ds.length := by simp [rngD]
    rw [show ({ ds := rngD 0 ds.length, src := none } : ItD).ds.length = ds.length from hl] at hk
    exact .inl ⟨y, e1, hk⟩
  · have hl : (rngD 0 ds.length).length = ds.length := by simp [rngD]
    rw [show ({ ds := rngD 0 ds.length, src := none } : ItD).ds.length = ds.length from hl] at hkl
    exact .inr ⟨k, hkl, hj, hk, e1⟩
theorem fin {m : Nat} {ds : List D} {h t : Int} {v : D} {x4 x5 : Option D} {r1 r2 : RF} {s1 s2 : RS} (h0 : 0 ≤ h) (hht : h ≤ t) (w' : 0 < t → ds ≠ []) (hz : ds.length < 1000) (hx : ∀ x ∈ ds, dt m x) (hv : v.pure = true)
    (hf1 : forGo (.nm 4) (dIf (dNotT (dTr (dCall 4 F_is_step (foldA [(dVar 3), (dVar 4), (dVar 1), (dVar 2)])))) (dRaise "BadRow" "at" (dFrz (d2 (binD .Add) (dCst (.int 2)) (dVar 4)))) dPass) ⟨rngD 0 ds.length, none⟩ [] (rngD 0 ds.length) [some v, some (.int h), some (.int t), some (.tup ds), x4] = s1)
    (hf2 : forGo (.nm 4) (dIf (dNotT (dTr (dCall 4 F__law_stands (foldA [(dVar 3), (dVar 4), (dVar 1), (dVar 2)])))) (dRet (d2 (binD .Add) (dCst (.int 2)) (dVar 4))) dPass) ⟨rngD 0 ds.length, none⟩ [] (rngD 0 ds.length) [some v, some (.int h), some (.int t), some (.tup ds), x5] = s2)
    (e1 : endF [v] (s1.seq (dRet (dCall 3 F_made_row (foldA [(dVar 1), (dVar 2), (dVar 3)])) [])) = r1) (e2 : endF [v] (s2.seq (dRet (dCst .non) [])) = r2) (ev : v = .tup [.int h, .int t, .tup ds]) :
    (∃ h' t' st, v = .tup [.int h', .int t', .tup (st.map Rd)] ∧ Val h' t' st ∧ r1 = .ok (row h' t' st) [v] ∧ r2 = .ok .non [v]) ∨ ∃ i, r1 = .exc (rowE i) [v] ∧ r2 = .ok (.int i) [v] := by
  rcases loop_row hz hx hf1 with ⟨y1, q1, all⟩ | ⟨k1, kl1, j1, f1, q1⟩
  · rcases loop_law hz hx hf2 with ⟨y2, q2, _⟩ | ⟨k2, kl2, j2, f2, q2⟩
    · subst q1; subst q2
      obtain ⟨st, es⟩ := all_steps all
      subst es
      refine .inl ⟨h, t, st, ev, ⟨h0, hht, fun a b => w' a (by rw [b]; rfl), fun k hk => all k (by rw [List.length_map]; exact hk)⟩, ?_, ?_⟩
      · rw [← e1]
        have := made_spec h t st (.tup (st.map Rd)) rfl (list_tup st)
        simp [this, hv]
      · rw [← e2]
        simp [hv]
    · rw [all k2 kl2] at f2; cases f2
  · rcases loop_law hz hx hf2 with ⟨y2, q2, all⟩ | ⟨k2, kl2, j2, f2, q2⟩
    · rw [all k1 kl1] at f1; cases f1
    · have : k1 = k2 := by
        rcases Nat.lt_trichotomy k1 k2 with z | z | z
        · rw [j2 k1 z] at f1; cases f1
        · exact z
        · rw [j1 k2 z] at f2; cases f2
      subst this
      subst q1; subst q2
      exact .inr ⟨2 + (k1 : Int), by rw [← e1]; simp [hv], by rw [← e2]; simp [hv]⟩
/-- the length as a number the kernel cannot take apart -/
theorem len_j (ds : List D) (hz : ds.length < 1000) : ∃ j : Int, j = (ds.length : Int) ∧ bltD .len [.tup ds] = some (.int j) ∧ ∀ ss : Sl, rngIt [.val (.int j)] ss = .ok ⟨rngD 0 ds.length, none⟩ ss := by
  obtain ⟨j, ej⟩ : ∃ j : Int, j = (ds.length : Int) := ⟨_, rfl⟩
  refine ⟨j, ej, by rw [ej]; rfl, fun ss => ?_⟩
  have h1 : j < 1000 := by omega
  have h2 : 0 ≤ j := by omega
  have h3 : j.toNat = ds.length := by omega
  rw [rng_1 ⟨by omega, by omega⟩, h3]
theorem for_len {ds : List D} {s : Sl} {g : SV} {i : Nat} {L : List Nat} (hz : ds.length < 1000) (h3 : s[i]? = some (some (.tup ds))) : dFor (dRng (foldA [(dPrim (bltD .len) (foldA [(dVar i)]))])) (.nm 4) g L s = forGo (.nm 4) g ⟨rngD 0 ds.length, none⟩ L (rngD 0 ds.length) s := by
  obtain ⟨j, _, hl, hr⟩ := len_j ds hz
  simp [-rng_1, -bl_lenT, h3, hl, hr]
theorem row_red0 {ds : List D} {h t : Int} (G R : SV) (et : F_is_tuple [.tup [.int h, .int t, .tup ds], .int 3] = .ok (.bl true) [.tup [.int h, .int t, .tup ds], .int 3]) (hfx : F_is_from [.int h, .int 0] = .ok (.bl true) [.int h, .int 0])
    (hfy : F_is_from [.int t, .int h] = .ok (.bl true) [.int t, .int h]) (w' : 0 < t → ds ≠ []) : endF [.tup [.int h, .int t, .tup ds]] ((G [] [some (.tup [.int h, .int t, .tup ds]), some (.int h), some (.int t), some (.tup ds), none]).seq (R [])) = dFn 1 5 (dSeq (dIf (dOrT (dNotT (dTr (dCall 2 F_is_tuple (foldA [(dVar 0), (dCst (.int 3))])))) (dNotT (dTr (dIsi .tuple (d2 ixD (dVar 0) (dCst (.int 2))))))) (dRaise "BadRow" "at" (dFrz (d1 negD (dCst (.int 1))))) dPass) (dSeq (dUnp (.tp [1, 2, 3]) (dVar 0)) (dSeq (dIf (dNotT (dTr (dCall 2 F_is_from (foldA [(dVar 1), (dCst (.int 0))])))) (dRaise "BadRow" "at" (dFrz (dCst (.int 0)))) dPass) (dSeq (dIf (dOrT (dNotT (dTr (dCall 2 F_is_from (foldA [(dVar 2), (dVar 1)])))) (dAndT (dTB (d2 (cmpD' .Gt) (dVar 2) (dCst (.int 0)))) (dTB (d2 (cmpD' .Eq) (dPrim (bltD .len) (foldA [(dVar 3)])) (dCst (.int 0)))))) (dRaise "BadRow" "at" (dFrz (dCst (.int 1)))) dPass) (dSeq G R))))) [.tup [.int h, .int t, .tup ds]] := by
  by_cases a : 0 < t
  · have b := w' a
    simp [et, hfx, hfy, a, b]
  · simp [et, hfx, hfy, a]
theorem law_red0 {ds : List D} {h t : Int} (G R : SV) (ix : F__law_is_int [.int h] = .ok (.bl true) [.int h]) (iy : F__law_is_int [.int t] = .ok (.bl true) [.int t]) (h0 : ¬ h < 0) (hn1 : ¬ t < h) (hnil : cmpD' .Eq (.tup ds) (.tup []) = some (.bl ds.isEmpty))
    (w' : 0 < t → ds.isEmpty = false) : endF [.tup [.int h, .int t, .tup ds]] ((G [] [some (.tup [.int h, .int t, .tup ds]), some (.int h), some (.int t), some (.tup ds), none]).seq (R [])) = dFn 1 5 (dSeq (dIf (dOrT (dNotT (dTr (dIsi .tuple (dVar 0)))) (dOrT (dTB (d2 (cmpD' .NotEq) (dPrim (bltD .len) (foldA [(dVar 0)])) (dCst (.int 3)))) (dNotT (dTr (dIsi .tuple (d2 ixD (dVar 0) (dCst (.int 2)))))))) (dRet (d1 negD (dCst (.int 1)))) dPass) (dSeq (dUnp (.tp [1, 2, 3]) (dVar 0)) (dSeq (dIf (dOrT (dNotT (dTr (dCall 1 F__law_is_int (foldA [(dVar 1)])))) (dTB (d2 (cmpD' .Lt) (dVar 1) (dCst (.int 0))))) (dRet (dCst (.int 0))) dPass) (dSeq (dIf (dOrT (dNotT (dTr (dCall 1 F__law_is_int (foldA [(dVar 2)])))) (dOrT (dTB (d2 (cmpD' .Lt) (dVar 2) (dVar 1))) (dAndT (dTB (d2 (cmpD' .Gt) (dVar 2) (dCst (.int 0)))) (dTB (d2 (cmpD' .Eq) (dVar 3) (dTup (foldA []))))))) (dRet (dCst (.int 1))) dPass) (dSeq G R))))) [.tup [.int h, .int t, .tup ds]] := by
  by_cases a : 0 < t
  · have b := w' a
    simp [ix, iy, h0, hn1, a, hnil, b]
  · simp [ix, iy, h0, hn1, a]
theorem row_red {ds : List D} {h t : Int} (et : F_is_tuple [.tup [.int h, .int t, .tup ds], .int 3] = .ok (.bl true) [.tup [.int h, .int t, .tup ds], .int 3]) (hfx : F_is_from [.int h, .int 0] = .ok (.bl true) [.int h, .int 0])
    (hfy : F_is_from [.int t, .int h] = .ok (.bl true) [.int t, .int h]) (hz : ds.length < 1000) (w' : 0 < t → ds ≠ []) :
    F_row_of [.tup [.int h, .int t, .tup ds]] = endF [.tup [.int h, .int t, .tup ds]] ((forGo (.nm 4) (dIf (dNotT (dTr (dCall 4 F_is_step (foldA [(dVar 3), (dVar 4), (dVar 1), (dVar 2)])))) (dRaise "BadRow" "at" (dFrz (d2 (binD .Add) (dCst (.int 2)) (dVar 4)))) dPass) ⟨rngD 0 ds.length, none⟩ [] (rngD 0 ds.length) [some (.tup [.int h, .int t, .tup ds]), some (.int h), some (.int t), some (.tup ds), none]).seq ((dRet (dCall 3 F_made_row (foldA [(dVar 1), (dVar 2), (dVar 3)]))) [])) :=
  (congrFun f_row_of _).trans ((row_red0 (dFor (dRng (foldA [(dPrim (bltD .len) (foldA [(dVar 3)]))])) (.nm 4) (dIf (dNotT (dTr (dCall 4 F_is_step (foldA [(dVar 3), (dVar 4), (dVar 1), (dVar 2)])))) (dRaise "BadRow" "at" (dFrz (d2 (binD .Add) (dCst (.int 2)) (dVar 4)))) dPass)) (dRet (dCall 3 F_made_row (foldA [(dVar 1), (dVar 2), (dVar 3)]))) et hfx hfy w').symm.trans (congrArg (fun r : RS => endF [.tup [.int h, .int t, .tup ds]] (r.seq ((dRet (dCall 3 F_made_row (foldA [(dVar 1), (dVar 2), (dVar 3)]))) []))) (for_len (i := 3) (s := [some (.tup [.int h, .int t, .tup ds]), some (.int h), some (.int t), some (.tup ds), none]) hz rfl)))
theorem law_red {ds : List D} {h t : Int} (ix : F__law_is_int [.int h] = .ok (.bl true) [.int h]) (iy : F__law_is_int [.int t] = .ok (.bl true) [.int t]) (h0 : ¬ h < 0) (hn1 : ¬ t < h) (hz : ds.length < 1000) (hnil : cmpD' .Eq (.tup ds) (.tup []) = some (.bl ds.isEmpty))
    (w' : 0 < t → ds.isEmpty = false) :
    F__law_fault [.tup [.int h, .int t, .tup ds]] = endF [.tup [.int h, .int t, .tup ds]] ((forGo (.nm 4) (dIf (dNotT (dTr (dCall 4 F__law_stands (foldA [(dVar 3), (dVar 4), (dVar 1), (dVar 2)])))) (dRet (d2 (binD .Add) (dCst (.int 2)) (dVar 4))) dPass) ⟨rngD 0 ds.length, none⟩ [] (rngD 0 ds.length) [some (.tup [.int h, .int t, .tup ds]), some (.int h), some (.int t), some (.tup ds), none]).seq ((dRet (dCst .non)) [])) :=
  (congrFun f__law_fault _).trans ((law_red0 (dFor (dRng (foldA [(dPrim (bltD .len) (foldA [(dVar 3)]))])) (.nm 4) (dIf (dNotT (dTr (dCall 4 F__law_stands (foldA [(dVar 3), (dVar 4), (dVar 1), (dVar 2)])))) (dRet (d2 (binD .Add) (dCst (.int 2)) (dVar 4))) dPass)) (dRet (dCst .non)) ix iy h0 hn1 hnil w').symm.trans (congrArg (fun r : RS => endF [.tup [.int h, .int t, .tup ds]] (r.seq ((dRet (dCst .non)) []))) (for_len (i := 3) (s := [some (.tup [.int h, .int t, .tup ds]), some (.int h), some (.int t), some (.tup ds), none]) hz rfl)))
theorem rowof_spec {m : Nat} {d : D} (hd : dt m d) (hm : m ≤ 60) : (∃ h t st, d = .tup [.int h, .int t, .tup (st.map Rd)] ∧ Val h t st ∧ F_row_of [d] = .ok (row h t st) [d] ∧ F__law_fault [d] = .ok .non [d]) ∨
    ∃ i, F_row_of [d] = .exc (rowE i) [d] ∧ F__law_fault [d] = .ok (.int i) [d] := by
  have pd := dt_pure hd
  have et := tuple_spec 3 hd
  by_cases h3 : ∃ x y z, d = .tup [x, y, z]
  rotate_left
  · refine .inr ⟨-1, ?_, ?_⟩
    · have : tupN 3 d = false := by
        cases d <;> first | rfl | skip
        rename_i ds
        refine decide_eq_false fun e => h3 ?_
        match ds, e with
        | [x, y, z], _ => exact ⟨x, y, z, rfl⟩
        | [], e => simp at e
        | [x], e => simp at e
        | [x, y], e => simp at e
        | x :: y :: z :: w :: r, e => simp at e; omega
      rw [f_row_of]
      simp [pd, et, this]
    · rw [f__law_fault]
      by_cases ht : ∃ es, d = .tup es
      · obtain ⟨es, ht⟩ := ht
        subst ht
        have hl : ¬ (es.length : Int) = 3 := fun e => h3 (by
          match es, e with
          | [x, y, z], _ => exact ⟨x, y, z, rfl⟩
          | [], e => simp at e
          | [x], e => simp at e
          | [x, y], e => simp at e
          | x :: y :: z :: w :: r, e => simp at e; omega)
        simp [hl]
      · have := isi_no hd (fun es z => ht ⟨es, z⟩)
        simp [pd, this]
  obtain ⟨x, y, z, e⟩ := h3
  subst e
  obtain ⟨m', hm', dx, dy, dz⟩ : ∃ m', m' < m ∧ dt m' x ∧ dt m' y ∧ dt m' z := by
    cases m with
    | zero => exact hd.elim
    | succ m =>
      rcases hd with h | ⟨b, h⟩ | ⟨i, h⟩ | ⟨s, h, _⟩ | ⟨ds, h | h, hz, hx⟩ <;> first | cases h | skip
      exact ⟨m, Nat.lt_succ_self m, hx x (by simp), hx y (by simp), hx z (by simp)⟩
  have e3 : tupN 3 (.tup [x, y, z]) = true := rfl
  have px := dt_pure dx
  have py := dt_pure dy
  have pz := dt_pure dz
  by_cases ht : ∃ es, z = .tup es
  rotate_left
  · have iz := isi_no dz (fun es w => ht ⟨es, w⟩)
    exact .inr ⟨-1, by rw [f_row_of]; simp [et, e3, pz, iz], by rw [f__law_fault]; simp [pz, iz]⟩
  obtain ⟨ds, ht⟩ := ht
  subst ht
  have hfx := from_spec' 0 dx
  have ix := lint_spec dx
  rcases from_cases 0 dx with ⟨h, ex, h0, fx⟩ | ⟨fx, gx⟩
  rotate_left
  · refine .inr ⟨0, by rw [f_row_of]; simp [et, e3, px, py, hfx, fx], ?_⟩
    rw [f__law_fault]
    rcases gx with gx | ⟨s, e, hs⟩
    · simp [px, py, ix, gx]
    · subst e
      have : isI (.int s) = true := rfl
      simp [py, ix, this, hs]
  subst ex
  have q0 : isI (.int h) = true := rfl
  have hn : ¬ h < 0 := by omega
  have hfy := from_spec' h dy
  have iy := lint_spec dy
  rcases from_cases h dy with ⟨t, ey, hht, fy⟩ | ⟨fy, gy⟩
  rotate_left
  · refine .inr ⟨1, by rw [f_row_of]; simp [et, e3, py, hfx, fx, hfy, fy], ?_⟩
    rw [f__law_fault]
    rcases gy with gy | ⟨s, e, hs⟩
    · simp [py, ix, q0, hn, iy, gy]
    · subst e
      have : isI (.int s) = true := rfl
      simp [ix, q0, hn, iy, this, hs]
  subst ey
  have q1 : isI (.int t) = true := rfl
  have hn1 : ¬ t < h := by omega
  have hnil := eq_tnil' dz (by omega)
  obtain ⟨m2, hz, hx⟩ : ∃ m2, ds.length < 1000 ∧ ∀ x ∈ ds, dt m2 x := by
    cases m' with
    | zero => exact dz.elim
    | succ m' =>
      rcases dz with h | ⟨b, h⟩ | ⟨i, h⟩ | ⟨s, h, _⟩ | ⟨ds', h | h, hz, hx⟩ <;> first | cases h | skip
      exact ⟨m', hz, hx⟩
  have hl0 : (ds.length : Int) = 0 ↔ ds = [] := by
    rw [← List.length_eq_zero_iff]; omega
  have tf : ∀ p : Prop, p = True ∨ p = False := fun p => (Classical.em p).imp eq_true eq_false
  by_cases w : 0 < t ∧ ds = []
  · obtain ⟨w1, w2⟩ := w
    subst w2
    refine .inr ⟨1, by rw [f_row_of]; simp [et, e3, hfx, fx, hfy, fy, w1], ?_⟩
    rw [f__law_fault]
    simp [ix, q0, hn, iy, q1, hn1, w1, eq_tnil' dz (by omega)]
  have rz : (ds.length : Int) < 1000 := by omega
  have w' : 0 < t → ds ≠ [] := fun a b => w ⟨a, b⟩
  have w2 : 0 < t → ds.isEmpty = false := fun a => by
    cases q : ds with
    | nil => exact absurd q (w' a)
    | cons x r => rfl
  rw [e3] at et
  rw [fx] at hfx
  rw [fy] at hfy
  rw [q0] at ix
  rw [q1] at iy
  exact fin h0 hht w' hz hx rfl rfl rfl (row_red et hfx hfy hz w').symm (law_red ix iy hn hn1 hz hnil w2).symm rfl
end K06

set_option Elab.async false
set_option linter.all false
set_option maxRecDepth 100000
set_option maxHeartbeats 4000000
namespace K06
open PySem L2 Dn
theorem st_len {m : Nat} {h t : Int} {st : List Rp} (hd : dt m (.tup [.int h, .int t, .tup (st.map Rd)])) : st.length < 1000 ∧ ∀ r ∈ st, sh r.2 := by
  cases m with
  | zero => exact hd.elim
  | succ m =>
    rcases hd with h | ⟨b, h⟩ | ⟨i, h⟩ | ⟨s, h, _⟩ | ⟨ds, h | h, hz, hx⟩ <;> first | cases h | skip
    have h3 := hx (.tup (st.map Rd)) (by simp)
    cases m with
    | zero => exact h3.elim
    | succ m =>
      rcases h3 with h | ⟨b, h⟩ | ⟨i, h⟩ | ⟨s, h, _⟩ | ⟨ds, h | h, hz2, hx2⟩ <;> first | cases h | skip
      refine ⟨by simpa using hz2, fun r hr => ?_⟩
      have h4 := hx2 (Rd r) (List.mem_map.mpr ⟨r, hr, rfl⟩)
      cases m with
      | zero => exact h4.elim
      | succ m =>
        rcases h4 with h | ⟨b, h⟩ | ⟨i, h⟩ | ⟨s, h, _⟩ | ⟨ds, h | h, hz3, hx3⟩ <;> first | cases h | skip
        have h5 := hx3 (Nd r.2) (by simp)
        intro l hl
        rw [hl] at h5
        cases m with
        | zero => exact h5.elim
        | succ m =>
          rcases h5 with h | ⟨b, h⟩ | ⟨i, h⟩ | ⟨s, h, _⟩ | ⟨ds, h | h, hz4, hx4⟩ <;> first | cases h | skip
          simpa using hz4
theorem judged_spec {m : Nat} {d : D} (hd : dt m d) (hm : m ≤ 60) : F__law_judged [d] = .ok (.bl true) [d] := by
  have pd := dt_pure hd
  have vd := dt_view hd
  have zd := frz_p pd
  rcases rowof_spec hd hm with ⟨h, t, st, e, V, e1, e2⟩ | ⟨i, e1, e2⟩
  · subst e
    obtain ⟨hl, hs⟩ := st_len hd
    have es := state_spec h t st hl
    have el := like_spec (pl_state (h := h) (t := t) hl hs)
    rw [f__law_judged]
    simp [e1, e2, es, el]
  · rw [f__law_judged]
    simp [e1, e2, pd]
    rw [trA_yes (r := .rt (.bl true) [some d, some (.int i), none, none]) exm_B (by simp) (by simp) (by simp) fun a dx => ?_]
    · simp [pd]
    · simp [likeH_int, clrS, pd]
end K06

set_option Elab.async false
set_option linter.all false
set_option maxRecDepth 100000
set_option maxHeartbeats 4000000
namespace K06
open PySem L2 Dn
/-- a number that may be told -/
def nv (n : Nu) : Prop := ∀ l, n = some l → good l = true ∧ l.length < 1000
theorem nv_none : nv none := fun l z => by cases z
theorem nv_sh {n : Nu} (h : nv n) : sh n := fun l z => (h l z).2
theorem nv_num {n : Nu} (h : nv n) : isNum (Nd n) = some n := by
  cases n with
  | none => rfl
  | some l =>
    unfold isNum Nd
    dsimp only
    rw [ints_map]
    dsimp only
    rw [if_pos (h l rfl).1]
theorem dt_nd {n : Nu} (h : sh n) : dt 2 (Nd n) := by
  cases n with
  | none => exact .inl rfl
  | some l => exact .inr (.inr (.inr (.inr ⟨_, .inl rfl, by rw [List.length_map]; exact h l rfl, fun x hx => by
      obtain ⟨i, _, e⟩ := List.mem_map.mp hx
      subst e
      exact .inr (.inr (.inl ⟨i, rfl⟩))⟩)))
theorem dt_int {m : Nat} (i : Int) : dt (m + 1) (.int i) := .inr (.inr (.inl ⟨i, rfl⟩))
theorem dt_tup {m : Nat} {ds : List D} (hl : ds.length < 1000) (h : ∀ x ∈ ds, dt m x) : dt (m + 1) (.tup ds) := .inr (.inr (.inr (.inr ⟨ds, .inl rfl, hl, h⟩)))
theorem dt_lst {m : Nat} {ds : List D} (hl : ds.length < 1000) (h : ∀ x ∈ ds, dt m x) : dt (m + 1) (.lst ds) := .inr (.inr (.inr (.inr ⟨ds, .inr rfl, hl, h⟩)))
theorem dt_rd {r : Rp} (h : sh r.2) : dt 3 (Rd r) := dt_tup (by simp) fun x hx => by
  rcases List.mem_cons.mp hx with e | hx
  · subst e; exact dt_int _
  · have : x = Nd r.2 := by simpa using hx
    rw [this]; exact dt_nd h
theorem dt_state {h t : Int} {st : List Rp} (hl : st.length < 1000) (hs : ∀ r ∈ st, sh r.2) : dt 5 (.tup [.int h, .int t, .tup (st.map Rd)]) := dt_tup (by simp) fun x hx => by
  rcases List.mem_cons.mp hx with e | hx
  · subst e; exact dt_int _
  · rcases List.mem_cons.mp hx with e | hx
    · subst e; exact dt_int _
    · have : x = .tup (st.map Rd) := by simpa using hx
      subst this
      exact dt_tup (by rw [List.length_map]; exact hl) fun y hy => by
        obtain ⟨r, hr, e⟩ := List.mem_map.mp hy
        subst e
        exact dt_rd (hs r hr)
theorem la0_snoc (l : List Int) (x : Int) : la0 (l ++ [x]) = x := by
  unfold la0
  simp
theorem number_nv (a b few : Int) (h0 : 0 < few) (h1 : few < 1000) : ∃ a' b' n, nv n ∧ F__law_number [.ml [.int a, .int b], .int few] = .ok (Nd n) [.ml [.int a', .int b'], .int few] := by
  obtain ⟨a1, b1, r1, p1, q1, e1⟩ := take_spec a b 5 (by decide) (by decide)
  by_cases c0 : r1 = 0
  · refine ⟨a1, b1, none, nv_none, ?_⟩
    rw [f__law_number]
    simp [e1, c0]
  by_cases c4 : r1 < 4
  · obtain ⟨a2, b2, r2, p2, q2, e2⟩ := take_spec a1 b1 few h0 (by omega)
    obtain ⟨a3, b3, r3, p3, q3, e3⟩ := take_spec a2 b2 2 (by decide) (by decide)
    refine ⟨a3, b3, some [r2, r3], fun l z => (by
      cases z
      refine ⟨?_, by simp⟩
      unfold good
      have g1 : hd0 [r2, r3] = r2 := rfl
      have g2 : la0 [r2, r3] = r3 := rfl
      rw [g1, g2]
      have g3 : r3 ≤ 31 := by omega
      simp [p2, p3, g3]), ?_⟩
    rw [f__law_number]
    simp [e1, c0, c4, e2, e3, Nd]
  obtain ⟨a2, b2, r2, p2, q2, e2⟩ := take_spec a1 b1 1000000000000 (by decide) (by decide)
  obtain ⟨a3, b3, v3, m3, e3⟩ := pick_spec a2 b2 [.int 0, .int 1000000000000, .int r2] (Nat.succ_pos _) (by simp) rfl
  obtain ⟨x3, hx3, rfl⟩ : ∃ x : Int, 0 ≤ x ∧ v3 = .int x := by
    simp only [List.mem_cons, List.not_mem_nil, or_false] at m3
    rcases m3 with h | h | h
    · exact ⟨_, by omega, h⟩
    · exact ⟨_, by omega, h⟩
    · exact ⟨_, p2, h⟩
  obtain ⟨a4, b4, r4, p4, q4, e4⟩ := take_spec a3 b3 9 (by decide) (by decide)
  rw [f__law_number]
  simp (disch := omega) [e1, c0, c4, e2, e3, e4]
  generalize hf : forGo _ _ _ _ _ _ = r
  obtain ⟨s2, rfl, u, v, es, x4, e, hl, hne⟩ := for_of hf (fun t s => ∃ (u v : Int) (es : List Int) (x4 : Option D), s = [some (.ml [.int u, .int v]), some (.int few), some (.int r1), some (.ml ((x3 :: es).map .int)), x4] ∧ es.length ≤ t ∧ True)
    ⟨a4, b4, [], _, rfl, by simp, trivial⟩ (fun _ _ _ => src_none) (fun t s d ⟨u, v, es, x4, e, hl, _⟩ hd => by
      subst e
      obtain ⟨ht, rfl⟩ := rng_get hd
      have ht9 : t < 9 := by omega
      obtain ⟨u1, v1, s1, i1, j1, g1⟩ := take_spec u v 1000000000000 (by decide) (by decide)
      obtain ⟨u2, v2, s2, i2, j2, g2⟩ := take_spec u1 v1 1000000000000 (by decide) (by decide)
      obtain ⟨u3, v3, w3, n3, g3⟩ := pick_spec u2 v2 [.int 0, .int (-1), .int (-1000000000000), .int 1000000000000, .int (s1 - s2)] (Nat.succ_pos _) (by simp) rfl
      obtain ⟨y3, rfl⟩ : ∃ x : Int, w3 = .int x := by
        simp only [List.mem_cons, List.not_mem_nil, or_false] at n3
        rcases n3 with h | h | h | h | h <;> exact ⟨_, h⟩
      refine ⟨[some (.ml [.int u, .int v]), some (.int few), some (.int r1), some (.ml ((x3 :: es).map .int)), some (.int (0 + (t : Int)))], [some (.ml [.int u3, .int v3]), some (.int few), some (.int r1), some (.ml ((x3 :: (es ++ [y3])).map .int)), some (.int (0 + (t : Int)))], ?_, .inl ?_, u3, v3, es ++ [y3], _, rfl, ?_, trivial⟩
      · simp
      · simp (disch := omega) [g1, g2, g3]
      · rw [List.length_append, List.length_singleton]; omega)
  subst e
  obtain ⟨a5, b5, r5, p5, q5, e5⟩ := take_spec u v 32 (by decide) (by decide)
  have hl9 : es.length ≤ 9 := by
    have : (rngD 0 r4.toNat).length ≤ 9 := by simp [rngD]; omega
    have hl : es.length ≤ (rngD 0 r4.toNat).length := hl
    omega
  refine ⟨a5, b5, some (x3 :: es ++ [r5]), fun l z => ?_, ?_⟩
  · cases z
    refine ⟨?_, by simp; omega⟩
    unfold good
    have g1 : hd0 (x3 :: es ++ [r5]) = x3 := rfl
    have g2 : la0 (x3 :: es ++ [r5]) = r5 := la0_snoc (x3 :: es) r5
    rw [g1, g2]
    have g3 : r5 ≤ 31 := by omega
    have g4 : 2 ≤ (x3 :: es ++ [r5]).length := by simp
    simp only [hx3, p5, g3, g4, decide_true, Bool.and_self]
  · have hp : allPure (es.map D.int ++ [.int r5]) = true := by
      have := ints_pure (es ++ [r5])
      rw [List.map_append] at this
      exact this
    simp (disch := omega) [e5, ints_pure, Nd, hp]
/-! ### states that a row may have -/
structure Vs (h t : Int) (st : List Rp) : Prop where
  h0 : 0 ≤ h
  ht : h ≤ t
  ch : chain st
  ic : inc st
  nm : ∀ q ∈ st, nv q.2
  sr : ∀ q ∈ st, max h 1 ≤ q.1 ∨ (h = 0 ∧ q.1 = 0 ∧ q.2.isSome = true)
  ls : (st = [] ∧ t = 0) ∨ ∃ s0 n, st = s0 ++ [(t, n)]
theorem inc_get : ∀ {st : List Rp} {k : Nat} {q r : Rp}, inc st → st[k]? = some q → st[k + 1]? = some r → q.1 < r.1
  | [], k, q, r, _, h, _ => by simp at h
  | x :: st, 0, q, r, i, h, g => by
    simp at h; subst h
    exact i.1 r (List.mem_of_getElem? (by simpa using g))
  | x :: st, k + 1, q, r, i, h, g => inc_get (k := k) i.2 (by simpa using h) (by simpa using g)
theorem chain_get : ∀ {st : List Rp} {k : Nat} {q r : Rp}, chain st → st[k]? = some q → st[k + 1]? = some r → bel q.2 r.2 = true
  | [], k, q, r, _, h, _ => by simp at h
  | x :: st, 0, q, r, i, h, g => by
    simp at h; subst h
    exact i.1 r (List.mem_of_getElem? (by simpa using g))
  | x :: st, k + 1, q, r, i, h, g => chain_get (k := k) i.2 (by simpa using h) (by simpa using g)
theorem step_rd {r : Rp} (h0 : 0 ≤ r.1) (hn : nv r.2) : stepN (Rd r) = some r := by
  unfold stepN Rd
  dsimp only
  rw [if_pos h0, nv_num hn]
  rfl
theorem Vs.nn {h t : Int} {st : List Rp} (v : Vs h t st) {q : Rp} (hq : q ∈ st) : 0 ≤ q.1 := by
  rcases v.sr q hq with z | z
  · omega
  · omega
theorem Vs.le {h t : Int} {st : List Rp} (v : Vs h t st) {q : Rp} (hq : q ∈ st) : q.1 ≤ t := by
  rcases v.ls with ⟨e, _⟩ | ⟨s0, n, e⟩
  · rw [e] at hq; exact nomatch hq
  · have key : ∀ {s0 : List Rp} {x q : Rp}, inc (s0 ++ [x]) → q ∈ s0 ++ [x] → q.1 ≤ x.1 := by
      intro s0
      induction s0 with
      | nil => intro x q _ h; have : q = x := by simpa using h
               rw [this]; omega
      | cons y s0 ih =>
        intro x q i h
        rcases List.mem_cons.mp h with z | z
        · subst z
          have := i.1 x (List.mem_append_right _ List.mem_cons_self)
          omega
        · exact ih i.2 z
    have ic := v.ic
    rw [e] at ic hq
    exact key ic hq
theorem Vs.val {h t : Int} {st : List Rp} (v : Vs h t st) : Val h t st := by
  refine ⟨v.h0, v.ht, fun a b => ?_, fun k hk => ?_⟩
  · rcases v.ls with ⟨_, e⟩ | ⟨s0, n, e⟩
    · omega
    · rw [e] at b; simp at b
  · have hr : st[k]? = some st[k] := List.getElem?_eq_getElem hk
    have hm : st[k] ∈ st := List.getElem_mem hk
    have s1 := step_rd (v.nn hm) (v.nm _ hm)
    unfold okAt
    rw [List.getElem?_map, hr]
    show (match stepN (Rd st[k]) with | some r => _ | none => false) = true
    rw [s1]
    show ((if k = 0 then firstB h st[k] else _) && _) = true
    rw [Bool.and_eq_true]
    constructor
    · by_cases z : k = 0
      · rw [if_pos z]
        unfold firstB
        rcases v.sr _ hm with q | ⟨q1, q2, q3⟩
        · rw [if_neg (by omega)]; exact decide_eq_true q
        · rw [if_pos ⟨q1, q2⟩]; exact q3
      · rw [if_neg z]
        obtain ⟨j, ej⟩ : ∃ j, k = j + 1 := ⟨k - 1, by omega⟩
        subst ej
        have hj : j < st.length := by omega
        have hq : st[j]? = some st[j] := List.getElem?_eq_getElem hj
        have hmj : st[j] ∈ st := List.getElem_mem hj
        rw [Nat.add_sub_cancel, List.getElem?_map, hq]
        show (match stepN (Rd st[j]) with | some q => _ | none => false) = true
        rw [step_rd (v.nn hmj) (v.nm _ hmj)]
        show (decide (st[j].1 < st[j + 1].1) && bel st[j].2 st[j + 1].2) = true
        rw [decide_eq_true (inc_get v.ic hq hr), chain_get v.ch hq hr]; rfl
    · rw [List.length_map]
      by_cases z : k + 1 < st.length
      · rw [decide_eq_true z]; rfl
      · rcases v.ls with ⟨e, _⟩ | ⟨s0, n, e⟩
        · rw [e] at hk; exact absurd hk (Nat.not_lt_zero _)
        · have hl : k = s0.length := by
            have := congrArg List.length e
            rw [List.length_append, List.length_singleton] at this
            omega
          have h2 : st[k]? = some (t, n) := by
            rw [e, hl]
            simp
          rw [hr] at h2
          have : st[k] = (t, n) := Option.some.inj h2
          rw [this]
          simp
theorem rowof_ok {h t : Int} {st : List Rp} (v : Vs h t st) (hl : st.length < 1000) : F_row_of [.tup [.int h, .int t, .tup (st.map Rd)]] = .ok (row h t st) [.tup [.int h, .int t, .tup (st.map Rd)]] := by
  have dd := dt_state (h := h) (t := t) hl fun r hr => nv_sh (v.nm r hr)
  rcases rowof_spec dd (by omega) with ⟨h', t', st', e, V, e1, e2⟩ | ⟨i, e1, e2⟩
  · injection e with e
    have ea : h = h' := by have := congrArg (fun l : List D => l[0]?) e; simpa using this
    have eb : t = t' := by have := congrArg (fun l : List D => l[1]?) e; simpa using this
    have ec : st.map Rd = st'.map Rd := by have := congrArg (fun l : List D => l[2]?) e; simpa using this
    have inj : ∀ a b : List Rp, a.map Rd = b.map Rd → a = b := by
      intro a
      induction a with
      | nil => intro b h; cases b with | nil => rfl | cons x r => cases h
      | cons x a ih =>
        intro b h
        cases b with
        | nil => cases h
        | cons y b =>
          rw [List.map_cons, List.map_cons] at h
          injection h with h1 h2
          have ex : x = y := by
            unfold Rd at h1
            injection h1 with h1
            have g1 : x.1 = y.1 := by have := congrArg (fun l : List D => l[0]?) h1; simpa using this
            have g2 : Nd x.2 = Nd y.2 := by have := congrArg (fun l : List D => l[1]?) h1; simpa using this
            have g3 : x.2 = y.2 := by
              cases p : x.2 with
              | none =>
                cases q : y.2 with
                | none => rfl
                | some l => rw [p, q] at g2; cases g2
              | some k =>
                cases q : y.2 with
                | none => rw [p, q] at g2; cases g2
                | some l =>
                  rw [p, q] at g2
                  have : k.map D.int = l.map D.int := by unfold Nd at g2; injection g2
                  have i1 := ints_map k
                  rw [this, ints_map l] at i1
                  exact i1.symm ▸ rfl
            exact Prod.ext g1 g3
          rw [ex, ih b h2]
    have es := inj st st' ec
    subst ea; subst eb; subst es
    exact e1
  · exfalso
    have V := v.val
    have et := tuple_spec 3 dd
    have h3 : tupN 3 (.tup [.int h, .int t, .tup (st.map Rd)]) = true := rfl
    rw [h3] at et
    have hfx := from_spec' 0 (dt_int (m := 0) h)
    rw [show fromI 0 (.int h) = true from decide_eq_true v.h0] at hfx
    have hfy := from_spec' h (dt_int (m := 0) t)
    rw [show fromI h (.int t) = true from decide_eq_true v.ht] at hfy
    have hz : (st.map Rd).length < 1000 := by rw [List.length_map]; exact hl
    have rr := row_red (ds := st.map Rd) et hfx hfy hz fun a b => V.ne a (by
      cases q : st with
      | nil => rfl
      | cons x r => rw [q] at b; cases b)
    rw [rr] at e1
    have hx : ∀ x ∈ st.map Rd, dt 3 x := fun x hx => by
      obtain ⟨r, hr, e⟩ := List.mem_map.mp hx
      subst e
      exact dt_rd (nv_sh (v.nm r hr))
    rcases loop_row (h := h) (t := t) (v := .tup [.int h, .int t, .tup (st.map Rd)]) (x4 := none) hz hx rfl with ⟨y, q, _⟩ | ⟨k, hk, _, f, _⟩
    · rw [q] at e1
      have := made_spec h t st (.tup (st.map Rd)) rfl (list_tup st)
      simp [this] at e1
    · rw [V.ok k (by rw [List.length_map] at hk; exact hk)] at f; cases f
end K06

set_option Elab.async false
set_option linter.all false
set_option maxRecDepth 100000
set_option maxHeartbeats 4000000
namespace K06
open PySem L2 Dn
/-! ### the law's own list and the row -/
structure Rw (h t : Int) (rs : List Rp) : Prop where
  h0 : 0 ≤ h
  ht : h ≤ t
  hb : t ≤ 1000000000000
  ic : inc rs
  nm : ∀ q ∈ rs, nv q.2
  ps : ∀ q ∈ rs, 1 ≤ q.1 ∨ (q.1 = 0 ∧ q.2.isSome = true)
  ls : (rs = [] ∧ t = 0) ∨ ∃ r0 n, rs = r0 ++ [(t, n)]
theorem inc_last : ∀ {s0 : List Rp} {x q : Rp}, inc (s0 ++ [x]) → q ∈ s0 ++ [x] → q.1 ≤ x.1
  | [], x, q, _, h => by have : q = x := by simpa using h
                         rw [this]; omega
  | y :: s0, x, q, i, h => by
    rcases List.mem_cons.mp h with z | z
    · subst z
      have := i.1 x (List.mem_append_right _ List.mem_cons_self)
      omega
    · exact inc_last i.2 z
theorem Rw.le {h t : Int} {rs : List Rp} (r : Rw h t rs) {q : Rp} (hq : q ∈ rs) : q.1 ≤ t := by
  rcases r.ls with ⟨e, _⟩ | ⟨s0, n, e⟩
  · rw [e] at hq; exact nomatch hq
  · have ic := r.ic
    rw [e] at ic hq
    exact inc_last ic hq
theorem inc_falls {k : Int} : ∀ {rs : List Rp}, inc rs → inc (falls k rs)
  | [], _ => trivial
  | r :: rs, h => by
    unfold falls
    split
    · exact ⟨fun q hq => h.1 q (falls_sub hq).1, inc_falls h.2⟩
    · exact inc_falls h.2
theorem Rw.vs {h t : Int} {rs : List Rp} (r : Rw h t rs) : Vs h t (falls h rs) := by
  refine ⟨r.h0, r.ht, falls_chain rs, inc_falls r.ic, fun q hq => r.nm q (falls_sub hq).1, fun q hq => ?_, ?_⟩
  · obtain ⟨h1, h2⟩ := falls_sub hq
    have := r.h0
    rcases r.ps q h1 with z | ⟨z1, z2⟩
    · left; omega
    · right; exact ⟨by omega, z1, z2⟩
  · rcases r.ls with ⟨e, e2⟩ | ⟨r0, n, e⟩
    · left; subst e; exact ⟨rfl, e2⟩
    · right
      subst e
      exact ⟨_, n, falls_add (x := (t, n)) r.ht r0⟩
theorem Rw.told {h t s : Int} {n : Nu} {rs : List Rp} (r : Rw h t rs) (hs : t < s) (hb : s ≤ 1000000000000) (hn : nv n) : Rw h s (rs ++ [(s, n)]) := by
  have := r.h0
  have := r.ht
  refine ⟨r.h0, by omega, hb, inc_add r.ic fun q hq => ?_, fun q hq => ?_, fun q hq => ?_, .inr ⟨rs, n, rfl⟩⟩
  · have := r.le hq
    show q.1 < s
    omega
  · rcases List.mem_append.mp hq with z | z
    · exact r.nm q z
    · have : q = (s, n) := by simpa using z
      rw [this]; exact hn
  · rcases List.mem_append.mp hq with z | z
    · exact r.ps q z
    · have : q = (s, n) := by simpa using z
      rw [this]; left; show 1 ≤ s; omega
theorem Rw.acked {h t k : Int} {rs : List Rp} (r : Rw h t rs) (hk : h < k ∧ k ≤ t) : Rw k t rs :=
  ⟨by have := r.h0; omega, hk.2, r.hb, r.ic, r.nm, r.ps, r.ls⟩
theorem falls_told {h t s : Int} {n : Nu} {rs : List Rp} (r : Rw h t rs) (hs : t < s) : falls h (rs ++ [(s, n)]) = popB n (falls h rs) ++ [(s, n)] :=
  falls_add (x := (s, n)) (show h ≤ s by have := r.ht; omega) rs
/-! ### a row begun -/
def beg (f : Int) (n : Nu) : List Rp := if f = 0 ∧ n = none then [] else [(f, n)]
theorem beg_rw {f : Int} {n : Nu} (h0 : 0 ≤ f) (hb : f ≤ 1000000000000) (hn : nv n) : Rw f f (beg f n) := by
  unfold beg
  by_cases c : f = 0 ∧ n = none
  · rw [if_pos c]
    exact ⟨h0, Int.le_refl _, hb, trivial, fun q z => (nomatch z), fun q z => (nomatch z), .inl ⟨rfl, c.1⟩⟩
  · rw [if_neg c]
    refine ⟨h0, Int.le_refl _, hb, ⟨fun q z => (nomatch z), trivial⟩, fun q hq => ?_, fun q hq => ?_, .inr ⟨[], n, rfl⟩⟩
    · have : q = (f, n) := by simpa using hq
      rw [this]; exact hn
    · have : q = (f, n) := by simpa using hq
      rw [this]
      by_cases z : f = 0
      · right
        refine ⟨z, ?_⟩
        show n.isSome = true
        cases n with
        | none => exact absurd ⟨z, rfl⟩ c
        | some l => rfl
      · left; show 1 ≤ f; omega
theorem beg_falls (f : Int) (n : Nu) : falls f (beg f n) = beg f n := by
  unfold beg
  split
  · rfl
  · simp [falls]
theorem begun_spec (f : Int) (n : Nu) (hn : sh n) : F_begun_row [.int f, Nd n] = .ok (row f f (beg f n)) [.int f, Nd n] := by
  rw [f_begun_row]
  unfold beg
  have hnn : isNonD (Nd n) = n.isNone := by cases n <;> rfl
  by_cases c : f = 0
  · cases n with
    | none => subst c; simp [init_spec]
    | some l =>
      have := made_spec f f [(f, some l)] (.lst [(.tup [.int f, Nd (some l)])]) rfl (list_lst [(f, some l)])
      subst c
      simp [hnn, this]
  · have := made_spec f f [(f, n)] (.lst [(.tup [.int f, Nd n])]) rfl (list_lst [(f, n)])
    simp [c, this]
/-! ### deeds -/
inductive De where
  | told (s : Int) (n : Nu) | acked (k : Int)
def DeD : De → D
  | .told s n => .tup [.str "told", .int s, Nd n]
  | .acked k => .tup [.str "acked", .int k, .non]
def dueB (d : De) (h t : Int) : Bool := match d with
  | .told s _ => decide (t < s)
  | .acked k => decide (h < k) && decide (k ≤ t)
@[simp] theorem de_pure (d : De) : (DeD d).pure = true := by cases d <;> rfl
@[simp] theorem de_frz (d : De) : frz (.val (DeD d)) = .val (DeD d) := by cases d <;> rfl
@[simp] theorem de_view (d : De) : (DeD d).view = DeD d := view_pure (de_pure d)
theorem due_spec (d : De) (h t : Int) : F__law_due [DeD d, .int h, .int t] = .ok (.bl (dueB d h t)) [DeD d, .int h, .int t] := by
  rw [f__law_due]
  cases d with
  | told s n => simp [DeD, dueB]
  | acked k =>
    by_cases a : h < k <;> simp [DeD, dueB, a, str_ne']
/-- a row after a deed -/
def aft (d : De) (h t : Int) (st : List Rp) : D := match d with
  | .told s n => if t < s then row h s (popB n st ++ [(s, n)]) else row h t st
  | .acked k => if h < k ∧ k ≤ t then row k t (st.filter fun q => decide (k ≤ q.1)) else row h t st
theorem takein_spec (d : De) (h t : Int) (st : List Rp) (hc : chain st) (hl : st.length < 900) : F__law_take_in [row h t st, DeD d] = .ok (.bl (dueB d h t)) [aft d h t st, DeD d] := by
  rw [f__law_take_in]
  cases d with
  | told s n =>
    by_cases a : t < s
    · simp [DeD, dueB, aft, a, told_ok h t s st n a hc hl]
    · have a' : s ≤ t := by omega
      simp [DeD, dueB, aft, a, told_no h t s st n a']
      rw [trA_yes (r := .rt (.bl false) [some (row h t st), some (.tup [.str "told", .int s, Nd n]), some (.str "told"), some (.int s), some (Nd n), none]) exm_R (by simp) (by simp) (by simp) fun a dx => ?_]
      · simp
      · simp [likeH_int, clrS]
  | acked k =>
    by_cases a : h < k ∧ k ≤ t
    · simp [DeD, dueB, aft, a, str_ne', acked_ok h t k st hl a]
    · have e := acked_no h t k st a
      have hb : (decide (h < k) && decide (k ≤ t)) = false := by
        by_cases x : h < k
        · have y : ¬ k ≤ t := fun y => a ⟨x, y⟩
          simp [y]
        · simp [x]
      simp [DeD, dueB, aft, a, str_ne', e, hb]
      rw [trA_yes (r := .rt (.bl false) [some (row h t st), some (.tup [.str "acked", .int k, .non]), some (.str "acked"), some (.int k), some .non, none]) exm_R (by simp) (by simp) (by simp) fun a dx => ?_]
      · simp
      · simp [likeH_int, clrS]
end K06

set_option Elab.async false
set_option linter.all false
set_option maxRecDepth 100000
set_option maxHeartbeats 4000000
namespace K06
open PySem L2 Dn
/-! ### _law_like of two values -/
open Classical in
theorem like_eq : ∀ (m : Nat) (d e : D), pl m d → pl m e → G__law_like m [d, e] = .ok (.bl (decide (d = e))) [d, e]
  | 0, d, e, h, _ => h.elim
  | m + 1, d, e, hd, he => by
    have pd := pl_pure hd
    have pe := pl_pure he
    have vd := view_pure pd
    rw [f__law_like]
    rcases he with he | ⟨j, he⟩ | ⟨s, he⟩ | ⟨es, he, hl2, hx2⟩
    · subst he
      rcases hd with hd | ⟨i, hd⟩ | ⟨s, hd⟩ | ⟨ds, hd, _, _⟩ <;> (subst hd; simp)
    · subst he
      rcases hd with hd | ⟨i, hd⟩ | ⟨s, hd⟩ | ⟨ds, hd, _, _⟩
      · subst hd; simp [isTy]
      · subst hd; simp [isTy]
      · subst hd; simp [isTy]
      · subst hd; simp [isTy]
    · subst he
      rcases hd with hd | ⟨i, hd⟩ | ⟨z, hd⟩ | ⟨ds, hd, _, _⟩
      · subst hd; simp [isTy]
      · subst hd; simp [isTy]
      · subst hd; simp [isTy]
      · subst hd; simp [isTy]
    · subst he
      rcases hd with hd | ⟨i, hd⟩ | ⟨z, hd⟩ | ⟨ds, hd, hl1, hx1⟩
      · subst hd; simp [isTy]
      · subst hd; simp [isTy]
      · subst hd; simp [isTy]
      · subst hd
        by_cases hl : ds.length = es.length
        rotate_left
        · have hl' : ¬ (ds.length : Int) = (es.length : Int) := by omega
          have hne : ¬ ds = es := fun z => hl (by rw [z])
          simp [isTy, hl, hl', hne]
        simp (disch := omega) [isTy, hl]
        generalize hf : lcGo _ _ _ _ _ _ _ _ = r
        obtain ⟨acc, s, rfl, x2, x3, e, h1, h2, h3, p2, p3⟩ := lc_of hf (fun j acc s => ∃ x2 x3 : Option D, s = [some (.tup ds), some (.tup es), x2, x3] ∧ (∀ x ∈ acc, x = .int 1) ∧ acc.length ≤ j ∧ (acc = [] ↔ ds.take j = es.take j) ∧ (∀ d, x2 = some d → d.pure = true) ∧ (∀ d, x3 = some d → d.pure = true))
          ⟨_, _, rfl, fun x z => (nomatch z), Nat.le_refl _, by simp, fun d z => (by cases z), fun d z => (by cases z)⟩ (fun j acc s ⟨x2, x3, e, _, _, _, p2, p3⟩ => by
            subst e
            refine ⟨?_, src_none⟩
            cases x2 with
            | none =>
              cases x3 with
              | none => rfl
              | some b => simpa using p3 b rfl
            | some a =>
              cases x3 with
              | none => simpa using p2 a rfl
              | some b => simp [p2 a rfl, p3 b rfl]) (fun j acc s d ⟨x2, x3, e, h1, h2, h3, p2, p3⟩ hd => by
            subst e
            obtain ⟨x, y, hx, hy, ed⟩ := zipD_get (show (zipD ds es)[j]? = some d from hd)
            subst ed
            have plx := hx1 x (List.mem_of_getElem? hx)
            have ply := hx2 y (List.mem_of_getElem? hy)
            have px := pl_pure plx
            have py := pl_pure ply
            have ih := like_eq m x y plx ply
            have hj := (List.getElem?_eq_some_iff.mp hx).1
            have tx : ds.take (j + 1) = ds.take j ++ [x] := by rw [List.take_succ, hx]; rfl
            have ty : es.take (j + 1) = es.take j ++ [y] := by rw [List.take_succ, hy]; rfl
            have key : (ds.take (j + 1) = es.take (j + 1)) ↔ (ds.take j = es.take j ∧ x = y) := by
              rw [tx, ty]
              constructor
              · intro z
                have := List.append_inj' z rfl
                exact ⟨this.1, by have := this.2; injection this⟩
              · rintro ⟨z1, z2⟩; rw [z1, z2]
            refine ⟨[some (.tup ds), some (.tup es), some x, some y], !decide (x = y), [some (.tup ds), some (.tup es), some x, some y], ?_, ?_, fun hb => ?_, fun hb => ?_⟩
            · simp
            · simp [px, py, ih]
            · have hb : ¬ x = y := by simpa using hb
              refine ⟨.int 1, [some (.tup ds), some (.tup es), some x, some y], by simp, rfl, by rw [sizeLine_eq]; omega, some x, some y, rfl, fun z hz => ?_, by simp; omega, ?_, fun d z => (by cases z; exact px), fun d z => (by cases z; exact py)⟩
              · rcases List.mem_append.mp hz with h | h
                · exact h1 z h
                · simpa using h
              · rw [key]
                constructor
                · intro z; simp at z
                · rintro ⟨_, z⟩; exact absurd z hb
            · have hb : x = y := by simpa using hb
              refine ⟨some x, some y, rfl, h1, by omega, ?_, fun d z => (by cases z; exact px), fun d z => (by cases z; exact py)⟩
              rw [key, h3]
              exact ⟨fun z => ⟨z, hb⟩, fun z => z.1⟩)
        subst e
        have hlz : (zipD ds es).length = ds.length := by unfold zipD; simp [hl]
        have h2' : acc.length ≤ (zipD ds es).length := h2
        have h3' : acc = [] ↔ ds.take (zipD ds es).length = es.take (zipD ds es).length := h3
        rw [hlz, List.take_length, hl, List.take_length] at h3'
        have e1 := eq_mnil' (ones_dt h1) (by omega) (show acc.length < 1000 by omega)
        have e2 : acc.isEmpty = decide (ds = es) := by
          by_cases z : ds = es
          · rw [decide_eq_true z, h3'.mpr z]; rfl
          · rw [decide_eq_false z]
            cases acc with
            | nil => exact absurd (h3'.mp rfl) z
            | cons a b => rfl
        simp [e1, e2]
open Classical in
theorem like_dec {d e : D} (hd : pl 12 d) (he : pl 12 e) : F__law_like [d, e] = .ok (.bl (decide (d = e))) [d, e] := by rw [g__law_like]; exact like_eq 12 d e hd he
/-! ### since -/
def hdN : List Rp → Nu
  | [] => none
  | q :: _ => q.2
def sinD (h t k : Int) (st : List Rp) : D := if max h 1 ≤ k ∧ k ≤ t then .tup [.str "is", Nd (hdN (st.filter fun q => decide (k ≤ q.1)))] else .str "refused"
theorem filt_ne {h t k : Int} {st : List Rp} (v : Vs h t st) (hk : max h 1 ≤ k ∧ k ≤ t) : ∃ q r, st.filter (fun q => decide (k ≤ q.1)) = q :: r := by
  cases e : st.filter (fun q => decide (k ≤ q.1)) with
  | cons q r => exact ⟨q, r, rfl⟩
  | nil =>
    exfalso
    rcases v.ls with ⟨_, e2⟩ | ⟨s0, n, e2⟩
    · omega
    · have hm : (t, n) ∈ st.filter (fun q => decide (k ≤ q.1)) := List.mem_filter.mpr ⟨by rw [e2]; simp, decide_eq_true hk.2⟩
      rw [e] at hm; exact nomatch hm
theorem law_since {h t k : Int} {st : List Rp} (v : Vs h t st) (hl : st.length < 900) : F__law_since [rowV h t st, .int k] = .ok (sinD h t k st) [rowV h t st, .int k] := by
  rw [f__law_since]
  unfold sinD
  by_cases c : max h 1 ≤ k ∧ k ≤ t
  · obtain ⟨q, r, e⟩ := filt_ne v c
    rw [if_pos c, e]
    simp [since_ok h t k st q r hl c e, hdN]
  · rw [if_neg c]
    simp [since_no h t k st c]
    rw [trO_yes exm_R]
    simp
theorem pl_is (n : Nu) (hn : sh n) : pl 4 (.tup [.str "is", Nd n]) := .inr (.inr (.inr ⟨_, rfl, by simp, fun x hx => by
  rcases List.mem_cons.mp hx with e | hx
  · subst e; exact .inr (.inr (.inl ⟨_, rfl⟩))
  · have : x = Nd n := by simpa using hx
    rw [this]; exact pl_mono (m := 2) (k := 3) (by decide) (pl_nd n hn)⟩))
theorem hdN_sh {st : List Rp} (h : ∀ q ∈ st, sh q.2) : sh (hdN st) := by
  cases st with
  | nil => exact fun l z => by cases z
  | cons q r => exact h q List.mem_cons_self
theorem sin_pl {h t k : Int} {st : List Rp} (v : Vs h t st) : pl 4 (sinD h t k st) := by
  unfold sinD
  split
  · exact pl_is _ (hdN_sh fun q hq => nv_sh (v.nm q (List.mem_filter.mp hq).1))
  · exact .inr (.inr (.inl ⟨_, rfl⟩))
end K06

set_option Elab.async false
set_option linter.all false
set_option maxRecDepth 100000
set_option maxHeartbeats 4000000
namespace K06
open PySem L2 Dn
@[simp] theorem ib_kl {b c} : isBlD (.kl b) c = false := rfl
@[simp] theorem ib_lst {b c} : isBlD (.lst b) c = false := rfl
@[simp] theorem aI2_kl {c1 c2 : Cl} {ds : List D} {ss : Sl} : aI2 c1 c2 (some (.kl ds)) ss = .ok (.val (.bl (isTy .lst c1 || isTy .lst c2))) ss := rfl
def lsN : List Rp → Nu
  | [] => none
  | [q] => q.2
  | _ :: r => lsN r
theorem lsN_snoc : ∀ (s : List Rp) (q : Rp), lsN (s ++ [q]) = q.2
  | [], q => rfl
  | [x], q => rfl
  | x :: y :: s, q => by
    show lsN (y :: (s ++ [q])) = _
    exact lsN_snoc (y :: s) q
theorem newest_all (h t : Int) (st : List Rp) (hl : st.length < 900) : F_Row_newest [rowV h t st] = .ok (Nd (lsN st)) [rowV h t st] := by
  rcases last_of st with e | ⟨s, q, e⟩
  · subst e; exact newest_nil h t
  · subst e
    rw [lsN_snoc]
    refine newest_spec h t s q ?_
    rw [List.length_append] at hl
    omega
theorem least_all (h t : Int) (st : List Rp) (hl : st.length < 900) : F_Row_least [rowV h t st] = .ok (Nd (hdN st)) [rowV h t st] := by
  rw [least_spec h t st (by omega)]
  cases st <;> rfl
theorem pls_pure {m : Nat} {ds : List D} (h : ∀ x ∈ ds, pl m x) : allPure ds = true := List.all_eq_true.mpr fun d hd => pl_pure (h d hd)
theorem pl_clo : ∀ {m : Nat} {d : D}, pl m d → d.clo = true
  | 0, _, h => h.elim
  | m + 1, d, h => by
    rcases h with h | ⟨i, h⟩ | ⟨s, h⟩ | ⟨ds, h, hl, hx⟩
    · subst h; simp
    · subst h; simp
    · subst h; simp
    · subst h
      have := cloL_all fun x hm => pl_clo (hx x hm)
      simpa using this
theorem pls_clo {m : Nat} {ds : List D} (h : ∀ x ∈ ds, pl m x) : cloL ds = true := cloL_all fun x hx => pl_clo (h x hx)
/-- two like lists -/
theorem like_list (ds : List D) (hl : ds.length < 1000) (hx : ∀ x ∈ ds, pl 11 x) : F__law_like [.ml ds, .kl ds] = .ok (.bl true) [.ml ds, .kl ds] := by
  rw [g__law_like, f__law_like]
  have hp := pls_pure hx
  simp (disch := omega) [isTy, hp]
  generalize hf : lcGo _ _ _ _ _ _ _ _ = r
  obtain ⟨acc, s, rfl, x2, x3, e, ea, p2, p3⟩ := lc_of hf (fun j acc s => ∃ x2 x3 : Option D, s = [some (.kl ds), some (.kl ds), x2, x3] ∧ acc = [] ∧ (∀ d, x2 = some d → d.pure = true) ∧ (∀ d, x3 = some d → d.pure = true))
    ⟨_, _, rfl, rfl, fun d z => (by cases z), fun d z => (by cases z)⟩ (fun j acc s ⟨x2, x3, e, ea, p2, p3⟩ => by
      subst e
      refine ⟨?_, src_none⟩
      cases x2 with
      | none =>
        cases x3 with
        | none => rfl
        | some b => simpa using p3 b rfl
      | some a =>
        cases x3 with
        | none => simpa using p2 a rfl
        | some b => simp [p2 a rfl, p3 b rfl]) (fun j acc s d ⟨x2, x3, e, ea, p2, p3⟩ hd => by
      subst e; subst ea
      obtain ⟨x, y, hx1, hy1, ed⟩ := zipD_get (show (zipD ds ds)[j]? = some d from hd)
      rw [hx1] at hy1; cases hy1
      subst ed
      have hq := hx x (List.mem_of_getElem? hx1)
      have pp := pl_pure hq
      have ih := like_ok 11 x hq
      refine ⟨[some (.kl ds), some (.kl ds), some x, some x], false, [some (.kl ds), some (.kl ds), some x, some x], ?_, ?_, fun hb => (by cases hb), fun _ => ⟨some x, some x, rfl, rfl, fun d z => (by cases z; exact pp), fun d z => (by cases z; exact pp)⟩⟩
      · simp
      · simp [pp, ih])
  subst e; subst ea
  simp [eq_nil]
/-! ### what a row answers, and what the list does -/
def ansL (h t : Int) (st : List Rp) (ks : List Int) : List D := [.tup [.int h, .int t, .tup (st.map Rd)], Nd (hdN st), Nd (lsN st)] ++ ks.map fun k => sinD h t k st
theorem lsN_sh {st : List Rp} (h : ∀ q ∈ st, sh q.2) : sh (lsN st) := by
  rcases last_of st with e | ⟨s, q, e⟩
  · subst e; exact fun l z => by cases z
  · subst e; rw [lsN_snoc]; exact h q (by simp)
theorem ans_pl {h t : Int} {st : List Rp} (v : Vs h t st) (hl : st.length < 900) (ks : List Int) : ∀ x ∈ ansL h t st ks, pl 11 x := fun x hx => by
  have hs : ∀ q ∈ st, sh q.2 := fun q hq => nv_sh (v.nm q hq)
  rcases List.mem_append.mp hx with hx | hx
  · simp only [List.mem_cons, List.not_mem_nil, or_false] at hx
    rcases hx with e | e | e
    · subst e
      refine .inr (.inr (.inr ⟨_, rfl, by simp, fun x hx => ?_⟩))
      have hi : ∀ i : Int, pl 10 (.int i) := fun i => .inr (.inl ⟨i, rfl⟩)
      simp only [List.mem_cons, List.not_mem_nil, or_false] at hx
      rcases hx with e | e | e
      · subst e; exact hi _
      · subst e; exact hi _
      · subst e
        exact .inr (.inr (.inr ⟨_, rfl, by rw [List.length_map]; omega, fun y hy => by
          obtain ⟨r, hr, e⟩ := List.mem_map.mp hy
          subst e
          exact pl_mono (m := 3) (k := 9) (by decide) (pl_rd (hs r hr))⟩))
    · subst e; exact pl_mono (m := 2) (k := 11) (by decide) (pl_nd _ (hdN_sh hs))
    · subst e; exact pl_mono (m := 2) (k := 11) (by decide) (pl_nd _ (lsN_sh hs))
  · obtain ⟨k, _, e⟩ := List.mem_map.mp hx
    subst e
    exact pl_mono (m := 4) (k := 11) (by decide) (sin_pl v)
theorem answers_spec {h t : Int} {st : List Rp} (v : Vs h t st) (hl : st.length < 900) (ks : List Int) (hk : ks.length < 900) : F__law_answers [rowV h t st, .kl (ks.map .int)] = .ok (.ml (ansL h t st ks)) [rowV h t st, .kl (ks.map .int)] := by
  have e1 := state_spec h t st (by omega)
  have e2 := least_all h t st hl
  have e3 := newest_all h t st hl
  have hs : ∀ q ∈ st, sh q.2 := fun q hq => nv_sh (v.nm q hq)
  have ap := ans_pl v hl ks
  rw [f__law_answers]
  simp [e1, e2, e3]
  generalize hf : lcGo _ _ _ _ _ _ _ _ = r
  obtain ⟨acc, s, rfl, x2, e, ea, p2, hj⟩ := lc_of hf (fun j acc s => ∃ x2 : Option D, s = [some (rowV h t st), some (.kl (ks.map .int)), x2] ∧ acc = (ks.take j).map (fun k => sinD h t k st) ∧ (∀ d, x2 = some d → d.pure = true) ∧ j ≤ ks.length)
    ⟨_, rfl, rfl, fun d z => (by cases z), Nat.zero_le _⟩ (fun j acc s ⟨x2, e, ea, p2, _⟩ => by
      subst e
      refine ⟨?_, src_none⟩
      cases x2 with
      | none => rfl
      | some b => simpa using p2 b rfl) (fun j acc s d ⟨x2, e, ea, p2, hj⟩ hd => by
      subst e
      have hd : (ks.map D.int)[j]? = some d := hd
      rw [List.getElem?_map] at hd
      cases hk2 : ks[j]? with
      | none => rw [hk2] at hd; cases hd
      | some k =>
        rw [hk2] at hd
        have hd : D.int k = d := by simpa using hd
        subst hd
        have hlt := (List.getElem?_eq_some_iff.mp hk2).1
        have sn := law_since (k := k) v hl
        have pq := pl_pure (sin_pl (k := k) v)
        have zq := frz_p pq
        have tk : ks.take (j + 1) = ks.take j ++ [k] := by rw [List.take_succ, hk2]; rfl
        refine ⟨[some (rowV h t st), some (.kl (ks.map .int)), some (.int k)], true, [some (rowV h t st), some (.kl (ks.map .int)), some (.int k)], by simp, rfl, fun _ => ⟨sinD h t k st, [some (rowV h t st), some (.kl (ks.map .int)), some (.int k)], by simp [sn, zq], pq, by rw [ea, List.length_map, List.length_take, sizeLine_eq]; omega, some (.int k), rfl, by rw [ea, tk, List.map_append]; rfl, fun d z => (by cases z; rfl), hlt⟩, fun z => (by cases z)⟩)
  subst e
  have hl1 : (({ ds := ks.map D.int, src := none } : ItD).ds.length) = ks.length := List.length_map _
  rw [hl1, List.take_length] at ea
  subst ea
  have pa := pls_pure ap
  have ca := pls_clo ap
  unfold ansL at pa ca ⊢
  have q1 : allPure (ks.map fun k => sinD h t k st) = true := List.all_eq_true.mpr fun d hd => by
    obtain ⟨k, _, e⟩ := List.mem_map.mp hd
    subst e; exact pl_pure (sin_pl v)
  have q2 : cloL (ks.map fun k => sinD h t k st) = true := cloL_all fun d hd => by
    obtain ⟨k, _, e⟩ := List.mem_map.mp hd
    subst e; exact pl_clo (sin_pl v)
  have q3 : 3 + ks.length ≤ 16777216 := by omega
  simp (disch := omega) [q1, q2, rds_clo]
theorem sin_due {h t : Int} {rs : List Rp} (r : Rw h t rs) (k : Int) : sinD h t k (falls h rs) = if k < 1 ∨ k < h ∨ t < k then .str "refused" else .tup [.str "is", Nd (lstG k rs none)] := by
  unfold sinD
  by_cases c : max h 1 ≤ k ∧ k ≤ t
  · rw [if_pos c, if_neg (by omega)]
    have hk : h ≤ k := by omega
    rw [← falls_cut hk, lst_head r.ic]
    cases falls k rs <;> rfl
  · rw [if_neg c, if_pos (by omega)]
theorem hd_least {h t : Int} {rs : List Rp} (r : Rw h t rs) : hdN (falls h rs) = lstG h rs none := by
  rw [lst_head r.ic]
  cases falls h rs <;> rfl
theorem ls_newest {h t : Int} {rs : List Rp} (r : Rw h t rs) : lsN (falls h rs) = lsN rs := by
  rcases r.ls with ⟨e, _⟩ | ⟨r0, n, e⟩
  · subst e; rfl
  · subst e
    rw [falls_add (x := (t, n)) r.ht r0, lsN_snoc, lsN_snoc]
end K06

set_option Elab.async false
set_option linter.all false
set_option maxRecDepth 100000
set_option maxHeartbeats 4000000
namespace K06
open PySem L2 Dn
theorem Rw.sh {h t : Int} {rs : List Rp} (r : Rw h t rs) : ∀ q ∈ rs, sh q.2 := fun q hq => nv_sh (r.nm q hq)
theorem rds_dt {rs : List Rp} (h : ∀ q ∈ rs, sh q.2) : ∀ x ∈ rs.map Rd, dt 3 x := fun x hx => by
  obtain ⟨q, hq, e⟩ := List.mem_map.mp hx
  subst e; exact dt_rd (h q hq)
theorem last_nd {h t : Int} {rs : List Rp} (r : Rw h t rs) (hl : rs.length < 60) {x1 x2 x3 x4 x5 : Option D} : dIfE (dTB (d2 (cmpD' .NotEq) (dVar 0) (dLst (foldA [])))) (d2 ixD (d2 ixD (dVar 0) (d1 negD (dCst (.int 1)))) (dCst (.int 1))) (dCst .non) [some (.ml (rs.map Rd)), x1, x2, x3, x4, x5] = .ok (.val (Nd (lsN rs))) [some (.ml (rs.map Rd)), x1, x2, x3, x4, x5] := by
  have n1 := ne_mnil (rds_dt r.sh) (by decide) (show (rs.map Rd).length < 1000 by rw [List.length_map]; omega)
  rcases last_of rs with e | ⟨s, q, e⟩
  · subst e
    simp only [List.map_nil] at n1 ⊢
    simp [n1]
    rfl
  · subst e
    have a1 : atI (s.map Rd ++ [Rd q]) (-1) = some (Rd q) := atI_last
    have a2 : ixD (Rd q) (.int 1) = some (Nd q.2) := by
      unfold Rd
      rw [Dn.ix_tup, at1]; simp
    simp only [List.map_append, List.map_cons, List.map_nil] at n1 ⊢
    simp [n1, a1, a2, lsN_snoc]
theorem falls_len {k : Int} : ∀ rs : List Rp, (falls k rs).length ≤ rs.length
  | [] => Nat.le_refl _
  | r :: rs => by
    unfold falls
    have := falls_len (k := k) rs
    split
    · simp; exact this
    · simp; omega
theorem whole_spec {h t : Int} {rs : List Rp} (w : Rw h t rs) (hl : rs.length < 60) (ks : List Int) (hk : ks.length < 900) : F__law_whole [.ml (rs.map Rd), .int h, .int t, .ml (ks.map .int)] = .ok (.ml (ansL h t (falls h rs) ks)) [.ml (rs.map Rd), .int h, .int t, .ml (ks.map .int)] := by
  have e1 := state_law h t rs hl
  have e2 : ∀ k, F__law_least [.ml (rs.map Rd), .int k] = .ok (Nd (lstG k rs none)) [.ml (rs.map Rd), .int k] := fun k => least_law true k rs
  have e3 := @last_nd h t rs w hl (some (.int h)) (some (.int t)) (some (.ml (ks.map .int))) none none
  have c1 := rds_clo rs
  rw [f__law_whole]
  simp [-ev_ifE, e1, e2, e3, ints_pure]
  generalize hf : forGo _ _ _ _ _ _ = r
  obtain ⟨s2, rfl, acc, x5, e, ha, hal⟩ := for_of hf (fun j s => ∃ (acc : List D) (x5 : Option D), s = [some (.ml (rs.map Rd)), some (.int h), some (.int t), some (.ml (ks.map .int)), some (.ml acc), x5] ∧ acc = ansL h t (falls h rs) (ks.take j) ∧ j ≤ ks.length)
    ⟨_, _, rfl, by unfold ansL; rw [List.take_zero, hd_least w, ls_newest w]; rfl, Nat.zero_le _⟩ (fun j s ⟨acc, x5, e, _⟩ => by subst e; exact src_some rfl) (fun j s d ⟨acc, x5, e, ha, hal⟩ hd => by
      subst e
      have hd : (ks.map D.int)[j]? = some d := hd
      rw [List.getElem?_map] at hd
      cases hk2 : ks[j]? with
      | none => rw [hk2] at hd; cases hd
      | some k =>
        rw [hk2] at hd
        have hd : D.int k = d := by simpa using hd
        subst hd
        have hlt := (List.getElem?_eq_some_iff.mp hk2).1
        have tk : ks.take (j + 1) = ks.take j ++ [k] := by rw [List.take_succ, hk2]; rfl
        have ea : ansL h t (falls h rs) (ks.take (j + 1)) = acc ++ [sinD h t k (falls h rs)] := by
          rw [ha, tk]; unfold ansL
          rw [List.map_append, List.append_assoc]; rfl
        have al : acc.length < 16777216 := by
          rw [ha]; unfold ansL
          rw [List.length_append, List.length_map, List.length_take]
          simp; omega
        refine ⟨[some (.ml (rs.map Rd)), some (.int h), some (.int t), some (.ml (ks.map .int)), some (.ml acc), some (.int k)], [some (.ml (rs.map Rd)), some (.int h), some (.int t), some (.ml (ks.map .int)), some (.ml (acc ++ [sinD h t k (falls h rs)])), some (.int k)], by simp, .inl ?_, _, _, rfl, ea.symm, hlt⟩
        rw [sin_due w k]
        by_cases c1 : k < 1
        · simp [c1, al]
        · by_cases c2 : k < h
          · simp [c1, c2, al]
          · by_cases c3 : t < k
            · simp [c1, c2, c3, al]
            · simp [c1, c2, c3, al, e2])
  subst e
  have hl1 : (({ ds := ks.map D.int, src := some (3, ks.map D.int) } : ItD).ds.length) = ks.length := List.length_map _
  rw [hl1, List.take_length] at ha
  subst ha
  have ap := ans_pl w.vs (show (falls h rs).length < 900 from Nat.lt_of_le_of_lt (falls_len rs) (by omega)) ks
  simp [pls_pure ap, pls_clo ap]
end K06

set_option Elab.async false
set_option linter.all false
set_option maxRecDepth 100000
set_option maxHeartbeats 4000000
namespace K06
open PySem L2 Dn
theorem comp_kl (rs : List Rp) (f l : Int) (x3 x7 : Option D) (t : Nat) (q : Rp) (hl : rs.length < 60) (ht : rs[t]? = some q) (p7 : ∀ d, x7 = some d → d.pure = true) :
    dLc (dSeqIt (dFrz (dSl (dVar 0) (dPart (d2 (binD .Add) (dVar 4) (dCst (.int 1)))) dNoP))) (.nm 7) (dNotT (dTr (dCall 2 F__law_above (foldA [(dFrz (d2 ixD (dVar 7) (dCst (.int 1)))), (dVar 6)])))) (dFrz (dCst (.int 1))) [7]
      [some (.kl (rs.map Rd)), some (.int f), some (.int l), x3, some (.int (t : Int)), some (.int q.1), some (Nd q.2), x7] =
      .ok (.val (.ml (List.replicate ((rs.drop (t + 1)).countP fun p => !bel q.2 p.2) (.int 1)))) [some (.kl (rs.map Rd)), some (.int f), some (.int l), x3, some (.int (t : Int)), some (.int q.1), some (Nd q.2), x7] := by
  have hlt : t < rs.length := (List.getElem?_eq_some_iff.mp ht).1
  have hcut : cutL (rs.map Rd) (some ((t : Int) + 1)) none = (rs.drop (t + 1)).map Rd := by
    rw [cut_drop (by rw [List.length_map]; exact hlt), List.map_drop]
  have e1 : dSeqIt (dFrz (dSl (dVar 0) (dPart (d2 (binD .Add) (dVar 4) (dCst (.int 1)))) dNoP)) [some (.kl (rs.map Rd)), some (.int f), some (.int l), x3, some (.int (t : Int)), some (.int q.1), some (Nd q.2), x7] =
      .ok ⟨(rs.drop (t + 1)).map Rd, none⟩ [some (.kl (rs.map Rd)), some (.int f), some (.int l), x3, some (.int (t : Int)), some (.int q.1), some (Nd q.2), x7] := by
    have hp := rds_pure (rs.drop (t + 1))
    rw [List.map_drop] at hp
    simp [dSl, dPart, asP, dNoP, op3s, slD, rds_pure, hcut, hp]
  have hps : purS [some (.kl (rs.map Rd)), some (.int f), some (.int l), x3, some (.int (t : Int)), some (.int q.1), some (Nd q.2), x7] [7] = true := by
    cases x7 with
    | none => simp
    | some d => simp [p7 d rfl]
  rw [ev_lc, e1]
  show (if purS _ [7] = true then _ else _) = _
  rw [if_pos hps]
  generalize hf : lcGo _ _ _ _ _ _ _ _ = r
  obtain ⟨acc, s, rfl, y, e, py, ea⟩ := lc_of hf (fun j acc s => ∃ y : Option D, s = [some (.kl (rs.map Rd)), some (.int f), some (.int l), x3, some (.int (t : Int)), some (.int q.1), some (Nd q.2), y] ∧ (∀ d, y = some d → d.pure = true) ∧
      acc = List.replicate (((rs.drop (t + 1)).take j).countP fun p => !bel q.2 p.2) (.int 1))
    ⟨x7, rfl, p7, by simp⟩ (fun j acc s ⟨y, e, py, ea⟩ => by
      subst e
      refine ⟨?_, src_none⟩
      cases y with
      | none => simp
      | some d => simp [py d rfl]) (fun j acc s d ⟨y, e, py, ea⟩ hd => by
      subst e
      have hd : ((rs.drop (t + 1)).map Rd)[j]? = some d := hd
      rw [List.getElem?_map] at hd
      cases hp : (rs.drop (t + 1))[j]? with
      | none => rw [hp] at hd; cases hd
      | some p =>
        rw [hp] at hd
        have hd : Rd p = d := by simpa using hd
        subst hd
        have hj : j < (rs.drop (t + 1)).length := (List.getElem?_eq_some_iff.mp hp).1
        have hge : (rs.drop (t + 1))[j] = p := (List.getElem?_eq_some_iff.mp hp).2
        have tk : (rs.drop (t + 1)).take (j + 1) = (rs.drop (t + 1)).take j ++ [p] := by rw [List.take_succ_eq_append_getElem hj, hge]
        have e2 : ixD (Rd p) (.int 1) = some (Nd p.2) := by
          unfold Rd
          rw [Dn.ix_tup, at1]; simp
        have acl : acc.length < 16777216 := by
          rw [ea, List.length_replicate]
          have := List.countP_le_length (p := fun p : Rp => !bel q.2 p.2) (l := (rs.drop (t + 1)).take j)
          rw [List.length_take, List.length_drop] at this
          omega
        refine ⟨[some (.kl (rs.map Rd)), some (.int f), some (.int l), x3, some (.int (t : Int)), some (.int q.1), some (Nd q.2), some (Rd p)], !bel q.2 p.2, [some (.kl (rs.map Rd)), some (.int f), some (.int l), x3, some (.int (t : Int)), some (.int q.1), some (Nd q.2), some (Rd p)], ?_, ?_, fun hb => ?_, fun hb => ?_⟩
        · simp
        · simp [e2, above_spec]
        · refine ⟨.int 1, [some (.kl (rs.map Rd)), some (.int f), some (.int l), x3, some (.int (t : Int)), some (.int q.1), some (Nd q.2), some (Rd p)], by simp, rfl, by rw [sizeLine_eq]; exact acl, some (Rd p), rfl, fun d z => (by cases z; rfl), ?_⟩
          rw [tk, List.countP_append, ea]
          have : List.countP (fun p : Rp => !bel q.2 p.2) [p] = 1 := by simp [hb]
          rw [this, List.replicate_succ']
        · refine ⟨some (Rd p), rfl, fun d z => (by cases z; rfl), ?_⟩
          rw [tk, List.countP_append, ea]
          have : List.countP (fun p : Rp => !bel q.2 p.2) [p] = 0 := by
            have hb : bel q.2 p.2 = true := by simpa using hb
            simp [hb]
          rw [this]; rfl)
  subst e
  have e3 : (ItD.mk ((rs.drop (t + 1)).map Rd) none).ds.length = (rs.drop (t + 1)).length := List.length_map _
  rw [e3, List.take_length] at ea
  subst ea
  simp
theorem state_kl (f l : Int) (rs : List Rp) (hl : rs.length < 60) : F__law_state [.kl (rs.map Rd), .int f, .int l] = .ok (.tup [.int f, .int l, .tup ((falls f rs).map Rd)]) [.kl (rs.map Rd), .int f, .int l] := by
  rw [f__law_state]
  simp (disch := omega) [rds_pure]
  generalize hf : forGo _ _ _ _ _ _ = r
  obtain ⟨s2, rfl, acc, x4, x5, x6, x7, e, ha, hal, p7⟩ := for_of hf (fun t s => ∃ (acc : List Rp) (x4 x5 x6 x7 : Option D), s = [some (.kl (rs.map Rd)), some (.int f), some (.int l), some (.ml (acc.map Rd)), x4, x5, x6, x7] ∧ acc ++ falls f (rs.drop t) = falls f rs ∧ acc.length ≤ t ∧ (∀ d, x7 = some d → d.pure = true))
    ⟨[], none, none, none, none, rfl, rfl, by simp, fun d z => (by cases z)⟩ (fun t s ⟨acc, x4, x5, x6, x7, e, _⟩ => by subst e; exact src_none) (fun t s d ⟨acc, x4, x5, x6, x7, e, ha, hal, p7⟩ hd => by
      subst e
      obtain ⟨x, hx, ed⟩ := enum_get (show (enumD (rs.map Rd))[t]? = some d from hd)
      subst ed
      rw [List.getElem?_map] at hx
      cases hq : rs[t]? with
      | none => rw [hq] at hx; cases hx
      | some q =>
        rw [hq] at hx
        have hx : Rd q = x := by simpa using hx
        subst hx
        have hlt : t < rs.length := (List.getElem?_eq_some_iff.mp hq).1
        have hge : rs[t] = q := (List.getElem?_eq_some_iff.mp hq).2
        have hdr : rs.drop t = q :: rs.drop (t + 1) := by rw [List.drop_eq_getElem_cons hlt, hge]
        have cs := comp_kl rs f l (some (.ml (acc.map Rd))) x7 t q hl hq p7
        have hc64 : ((rs.drop (t + 1)).countP fun p => !bel q.2 p.2) < 64 := by
          have := List.countP_le_length (p := fun p : Rp => !bel q.2 p.2) (l := rs.drop (t + 1))
          rw [List.length_drop] at this
          omega
        have hz : (((rs.drop (t + 1)).countP fun p => !bel q.2 p.2) = 0) ↔ (rs.drop (t + 1)).all (fun p => bel q.2 p.2) = true := by
          rw [List.countP_eq_zero, List.all_eq_true]
          simp
        have t1 : tgSet [0] (.tn [(.nm 4), (.tp [5, 6])]) (.tup [.int (t : Int), Rd q]) [some (.kl (rs.map Rd)), some (.int f), some (.int l), some (.ml (acc.map Rd)), x4, x5, x6, x7] = some [some (.kl (rs.map Rd)), some (.int f), some (.int l), some (.ml (acc.map Rd)), some (.int (t : Int)), some (.int q.1), some (Nd q.2), x7] := by
          unfold Rd
          simp
        refine ⟨[some (.kl (rs.map Rd)), some (.int f), some (.int l), some (.ml (acc.map Rd)), some (.int (t : Int)), some (.int q.1), some (Nd q.2), x7], ?_⟩
        rw [hdr] at ha
        have hf1 : falls f (q :: rs.drop (t + 1)) = if f ≤ q.1 ∧ (rs.drop (t + 1)).all (fun p => bel q.2 p.2) = true then q :: falls f (rs.drop (t + 1)) else falls f (rs.drop (t + 1)) := rfl
        rw [hf1] at ha
        by_cases c : f ≤ q.1
        · by_cases b : (rs.drop (t + 1)).all (fun p => bel q.2 p.2) = true
          · have b0 := hz.mpr b
            rw [if_pos (show f ≤ q.1 ∧ _ from ⟨c, b⟩)] at ha
            refine ⟨[some (.kl (rs.map Rd)), some (.int f), some (.int l), some (.ml ((acc ++ [q]).map Rd)), some (.int (t : Int)), some (.int q.1), some (Nd q.2), x7], t1, .inl ?_, acc ++ [q], _, _, _, x7, rfl, by rw [List.append_assoc]; exact ha, by rw [List.length_append]; simpa using hal, p7⟩
            rw [b0] at cs
            have al : acc.length < 16777216 := by omega
            simp [c, -ev_lc, cs, eq_rep (c := 0) (by omega), eq_nil, al]
            rfl
          · have b0 : ¬ ((rs.drop (t + 1)).countP fun p => !bel q.2 p.2) = 0 := fun z => b (hz.mp z)
            rw [if_neg (fun z => b z.2)] at ha
            refine ⟨[some (.kl (rs.map Rd)), some (.int f), some (.int l), some (.ml (acc.map Rd)), some (.int (t : Int)), some (.int q.1), some (Nd q.2), x7], t1, .inl ?_, acc, _, _, _, x7, rfl, ha, by omega, p7⟩
            generalize ((rs.drop (t + 1)).countP fun p => !bel q.2 p.2) = n at *
            simp [c, -ev_lc, cs, eq_rep hc64, b0]
        · rw [if_neg (fun z => c z.1)] at ha
          refine ⟨[some (.kl (rs.map Rd)), some (.int f), some (.int l), some (.ml (acc.map Rd)), some (.int (t : Int)), some (.int q.1), some (Nd q.2), x7], t1, .inl ?_, acc, _, _, _, x7, rfl, ha, by omega, p7⟩
          simp [c])
  subst e
  have e3 : (ItD.mk (enumD (rs.map Rd)) none).ds.length = rs.length := by simp [enumD]
  rw [e3, List.drop_length] at ha
  have ha : acc = falls f rs := by
    rw [← ha]; simp [falls]
  subst ha
  have hp := rds_pure (falls f rs)
  simp [hp]
end K06

set_option Elab.async false
set_option linter.all false
set_option maxRecDepth 100000
set_option maxHeartbeats 4000000
namespace K06
open PySem L2 Dn
/-! ### deeds drawn, rows drawn -/
def DeOk : De → Prop
  | .told s n => s ≤ 999999999999 ∧ nv n
  | .acked _ => True
theorem deed_spec (a b h t few : Int) (h0 : 0 ≤ h) (ht : h ≤ t) (hb : t ≤ 1000000000000) (f0 : 0 < few) (f1 : few < 1000) :
    ∃ a' b' d, DeOk d ∧ F__law_deed [.ml [.int a, .int b], .int h, .int t, .int few] = .ok (DeD d) [.ml [.int a', .int b'], .int h, .int t, .int few] := by
  obtain ⟨a1, b1, r1, p1, q1, e1⟩ := take_spec a b 3 (by decide) (by decide)
  by_cases c0 : r1 = 0
  · obtain ⟨a2, b2, r2, p2, q2, e2⟩ := take_spec a1 b1 (t - h + 2) (by omega) (by omega)
    refine ⟨a2, b2, .acked (h + r2), trivial, ?_⟩
    rw [f__law_deed]
    simp [e1, c0, e2, DeD]
  obtain ⟨a2, b2, r2, p2, q2, e2⟩ := take_spec a1 b1 10000000000 (by decide) (by decide)
  obtain ⟨a3, b3, v3, m3, e3⟩ := pick_spec a2 b2 [.int 0, .int 1, .int 1, .int 1, .int 1, .int 2, .int 9, .int r2] (Nat.succ_pos _) (by simp) rfl
  obtain ⟨x3, rfl⟩ : ∃ x : Int, v3 = .int x := by
    simp only [List.mem_cons, List.not_mem_nil, or_false] at m3
    rcases m3 with h | h | h | h | h | h | h | h <;> exact ⟨_, h⟩
  obtain ⟨a4, b4, n, hn, e4⟩ := number_nv a3 b3 few f0 f1
  refine ⟨a4, b4, .told (min 999999999999 (t + x3)) n, ⟨by omega, hn⟩, ?_⟩
  rw [f__law_deed]
  simp [e1, c0, e2, e3, e4, DeD]
end K06

set_option Elab.async false
set_option linter.all false
set_option maxRecDepth 100000
set_option maxHeartbeats 4000000
namespace K06
open PySem L2 Dn
noncomputable def dr1 : SV := (dPar [1, 2, 3, 4, 5] (foldA [(dMake 1 F_Row___init__ "Row" (foldA [])), (dLst (foldA [])), (dCst (.int 0)), (dCst (.int 0)), (d2 (binD .Add) (dCst (.int 1)) (dCall 2 F__law_take (foldA [(dVar 0), (dCst (.int 7))])))]))
noncomputable def dr2 : SV := (dIf (dTB (d2 (cmpD' .Eq) (dCall 2 F__law_take (foldA [(dVar 0), (dCst (.int 3))])) (dCst (.int 0)))) (dSeq (dPar [3, 6] (foldA [(dCall 2 F__law_pick (foldA [(dVar 0), (dFrz (dLst (foldA [(dFrz (dCst (.int 0))), (dFrz (dCst (.int 1))), (dFrz (dCst (.int 5))), (dFrz (d2 (binD .Sub) (d2 (binD .Pow) (dCst (.int 10)) (dCst (.int 12))) (dCst (.int 400))))])))])), (dCall 2 F__law_number (foldA [(dVar 0), (dVar 5)]))])) (dSeq (dPar [1, 4] (foldA [(dCall 2 F_begun_row (foldA [(dVar 3), (dVar 6)])), (dVar 3)])) (dIf (dOrT (dTB (d2 (cmpD' .Gt) (dVar 3) (dCst (.int 0)))) (dTB (d2 (cmpD' .IsNot) (dVar 6) (dCst .non)))) (dSet 2 (dLst (foldA [(dFrz (dTup (foldA [(dFrz (dVar 3)), (dFrz (dVar 6))])))]))) dPass))) dPass)
noncomputable def dr3 : SV := (dFor (dRng (foldA [(dCall 2 F__law_pick (foldA [(dVar 0), (dFrz (dLst (foldA [(dFrz (dCst (.int 0))), (dFrz (dCst (.int 1))), (dFrz (dCst (.int 3))), (dFrz (dCst (.int 9))), (dFrz (dCst (.int 29)))])))]))])) (.nm 7) (dIf (dAndT (dTB (d2 (cmpD' .Eq) (dCall 2 F__law_take (foldA [(dVar 0), (dCst (.int 5))])) (dCst (.int 0)))) (dTB (d2 (cmpD' .Lt) (dVar 3) (dVar 4)))) (dSeq (dSet 3 (d2 (binD .Add) (d2 (binD .Add) (dVar 3) (dCst (.int 1))) (dCall 2 F__law_take (foldA [(dVar 0), (dFrz (d2 (binD .Sub) (dVar 4) (dVar 3)))])))) (dDrop (dMeth false [(("Row", some "acked"), ⟨["self", "k"], F_Row_acked, H_Row_acked⟩)] "acked" (dVar 1) [(dVar 3)]))) (dSeq (dPar [4, 6] (foldA [(d2 (binD .Add) (d2 (binD .Add) (dVar 4) (dCst (.int 1))) (d2 (binD .Mult) (dCall 2 F__law_take (foldA [(dVar 0), (dCst (.int 2))])) (dCall 2 F__law_take (foldA [(dVar 0), (dCst (.int 9))])))), (dCall 2 F__law_number (foldA [(dVar 0), (dVar 5)]))])) (dSeq (dDrop (dAppend 2 (dFrz (dTup (foldA [(dFrz (dVar 4)), (dFrz (dVar 6))]))))) (dDrop (dMeth false [(("Row", some "told"), ⟨["self", "serial", "number"], F_Row_told, H_Row_told⟩)] "told" (dVar 1) [(dVar 4), (dVar 6)]))))))
noncomputable def dr4 : SV := (dRet (dTup (foldA [(dFrz (dVar 1)), (dFrz (dVar 2)), (dFrz (dVar 3)), (dFrz (dVar 4))])))
noncomputable def dr : SV := dSeq dr1 (dSeq dr2 (dSeq dr3 dr4))
theorem dr_eq : F__law_drawn = dFn 1 8 dr := f__law_drawn
theorem seqN {ss : Sl} {k : Sl → RS} : (RS.nx ss).seq k = k ss := rfl
theorem empty_rw : Rw 0 0 [] := ⟨by decide, by decide, by decide, trivial, fun q z => (nomatch z), fun q z => (nomatch z), .inl ⟨rfl, rfl⟩⟩
theorem beg_len (f : Int) (n : Nu) : (beg f n).length ≤ 1 := by
  unfold beg; split <;> simp
theorem beg_gt {f : Int} {n : Nu} (h0 : 0 ≤ f) : (0 < f ∨ n ≠ none) → beg f n = [(f, n)] := fun h => if_neg fun z => by
  rcases h with h | h
  · omega
  · exact h z.2
/-! #### the first draw -/
abbrev sR (u v h t : Int) (rs : List Rp) (few : Int) (x6 x7 : Option D) : Sl :=
  [some (.ml [.int u, .int v]), some (row h t (falls h rs)), some (.ml (rs.map Rd)), some (.int h), some (.int t), some (.int few), x6, x7]
theorem dr_1 (u v : Int) : ∃ u' v' few, 0 < few ∧ few < 1000 ∧ dr1 [0] [some (.ml [.int u, .int v]), none, none, none, none, none, none, none] = .nx (sR u' v' 0 0 [] few none none) := by
  obtain ⟨a1, b1, r1, p1, q1, e1⟩ := take_spec u v 7 (by decide) (by decide)
  refine ⟨a1, b1, 1 + r1, by omega, by omega, ?_⟩
  unfold dr1
  simp [e1, init_spec]
  rfl
theorem dr_2 {u v few : Int} (f0 : 0 < few) (f1 : few < 1000) : ∃ u' v' h t rs x6, Rw h t rs ∧ t ≤ 999999999600 ∧ rs.length ≤ 1 ∧ dr2 [0] (sR u v 0 0 [] few none none) = .nx (sR u' v' h t rs few x6 none) := by
  obtain ⟨a1, b1, r1, p1, q1, e1⟩ := take_spec u v 3 (by decide) (by decide)
  by_cases c0 : r1 = 0
  · obtain ⟨a2, b2, v2, m2, e2⟩ := pick_spec a1 b1 [.int 0, .int 1, .int 5, .int 999999999600] (Nat.succ_pos _) (by simp) rfl
    obtain ⟨f, rfl, hf0, hf1⟩ : ∃ x : Int, v2 = .int x ∧ 0 ≤ x ∧ x ≤ 999999999600 := by
      simp only [List.mem_cons, List.not_mem_nil, or_false] at m2
      rcases m2 with h | h | h | h <;> exact ⟨_, h, by decide, by decide⟩
    obtain ⟨a3, b3, n, hn, e3⟩ := number_nv a2 b2 few f0 f1
    have e4 := begun_spec f n (nv_sh hn)
    refine ⟨a3, b3, f, f, beg f n, some (Nd n), beg_rw hf0 (by omega) hn, hf1, beg_len f n, ?_⟩
    unfold dr2
    have hnn : isNonD (Nd n) = n.isNone := by cases n <;> rfl
    by_cases c1 : 0 < f
    · have eb := beg_gt (n := n) hf0 (.inl c1)
      rw [eb] at e4
      have ef : falls f [(f, n)] = [(f, n)] := by rw [← eb]; exact beg_falls f n
      simp [e1, c0, e2, e3, e4, c1, eb, ef]
      rfl
    · cases n with
      | none =>
        have : f = 0 := by omega
        subst this
        have eb : beg 0 none = [] := if_pos ⟨rfl, rfl⟩
        rw [eb] at e4
        simp [e1, c0, e2, e3, e4, eb]
        rfl
      | some l =>
        have eb := beg_gt (n := some l) hf0 (.inr (by simp))
        rw [eb] at e4
        have ef : falls f [(f, some l)] = [(f, some l)] := by rw [← eb]; exact beg_falls f (some l)
        simp [e1, c0, e2, e3, e4, c1, eb, ef, hnn]
        rfl
  · refine ⟨a1, b1, 0, 0, [], none, empty_rw, by decide, by decide, ?_⟩
    unfold dr2
    simp [e1, c0]
theorem falls_ack {h k : Int} {rs : List Rp} (hk : h ≤ k) : ((falls h rs).filter fun q => decide (k ≤ q.1)) = falls k rs := (falls_cut hk rs).symm
theorem dr_3 {u v few h t : Int} {rs : List Rp} {x6 : Option D} (f0 : 0 < few) (f1 : few < 1000) (w : Rw h t rs) (ht : t ≤ 999999999600) (hl : rs.length ≤ 1) :
    ∃ u' v' h' t' rs' x6' x7', Rw h' t' rs' ∧ rs'.length ≤ 30 ∧ dr3 [0] (sR u v h t rs few x6 none) = .nx (sR u' v' h' t' rs' few x6' x7') := by
  obtain ⟨a1, b1, v1, m1, e1⟩ := pick_spec u v [.int 0, .int 1, .int 3, .int 9, .int 29] (Nat.succ_pos _) (by simp) rfl
  obtain ⟨n, rfl, hn0, hn1⟩ : ∃ x : Int, v1 = .int x ∧ 0 ≤ x ∧ x ≤ 29 := by
    simp only [List.mem_cons, List.not_mem_nil, or_false] at m1
    rcases m1 with h | h | h | h | h <;> exact ⟨_, h, by decide, by decide⟩
  unfold dr3
  simp (disch := omega) [e1]
  generalize hf : forGo _ _ _ _ _ _ = r
  obtain ⟨s2, rfl, u', v', h', t', rs', x6', x7', e, w', ht', hl'⟩ := for_of hf (fun j s => ∃ (u' v' h' t' : Int) (rs' : List Rp) (x6' x7' : Option D), s = sR u' v' h' t' rs' few x6' x7' ∧ Rw h' t' rs' ∧ t' ≤ 999999999600 + 9 * (j : Int) ∧ rs'.length ≤ 1 + j)
    ⟨a1, b1, h, t, rs, x6, none, rfl, w, by omega, by omega⟩ (fun _ _ _ => src_none) (fun j s d ⟨u, v, h, t, rs, x6, x7, e, w, ht, hl⟩ hd => by
      subst e
      obtain ⟨hj, rfl⟩ := rng_get hd
      have hj29 : j < 29 := by omega
      obtain ⟨u1, v1, r1, p1, q1, e1⟩ := take_spec u v 5 (by decide) (by decide)
      have fl := falls_len (k := h) rs
      by_cases c : r1 = 0 ∧ h < t
      · obtain ⟨u2, v2, r2, p2, q2, e2⟩ := take_spec u1 v1 (t - h) (by omega) (by have := w.h0; omega)
        have hk : h < h + 1 + r2 ∧ h + 1 + r2 ≤ t := by omega
        have e3 := acked_ok h t (h + 1 + r2) (falls h rs) (by omega) hk
        rw [falls_ack (by omega)] at e3
        refine ⟨sR u v h t rs few x6 (some (.int (0 + (j : Int)))), sR u2 v2 (h + 1 + r2) t rs few x6 (some (.int (0 + (j : Int)))), by simp, .inl ?_, _, _, _, _, _, _, _, rfl, w.acked hk, by omega, by omega⟩
        simp [e1, c.1, c.2, e2, e3]
      · obtain ⟨u2, v2, r2, p2, q2, e2⟩ := take_spec u1 v1 2 (by decide) (by decide)
        obtain ⟨u3, v3, r3, p3, q3, e3⟩ := take_spec u2 v2 9 (by decide) (by decide)
        obtain ⟨u4, v4, n, hn, e4⟩ := number_nv u3 v3 few f0 f1
        obtain ⟨m, hm⟩ : ∃ m, m = t + 1 + r2 * r3 := ⟨_, rfl⟩
        have hr : 0 ≤ r2 * r3 ∧ r2 * r3 ≤ 8 := by
          have : r2 = 0 ∨ r2 = 1 := by omega
          rcases this with z | z <;> (subst z; omega)
        have hm1 : t < m ∧ m ≤ t + 9 := by omega
        have e5 := told_ok h t m (falls h rs) n hm1.1 (falls_chain rs) (by omega)
        rw [← falls_told w hm1.1] at e5
        have al : rs.length < 16777216 := by omega
        refine ⟨sR u v h t rs few x6 (some (.int (0 + (j : Int)))), sR u4 v4 h m (rs ++ [(m, n)]) few (some (Nd n)) (some (.int (0 + (j : Int)))), by simp, .inl ?_, _, _, _, _, _, _, _, rfl, w.told hm1.1 (by omega) hn, by omega, by rw [List.length_append, List.length_singleton]; omega⟩
        by_cases c1 : r1 = 0
        · have c2 : ¬ h < t := fun z => c ⟨c1, z⟩
          simp (disch := omega) [e1, c1, c2, e2, e3, e4, ← hm, e5, al]
          rfl
        · simp (disch := omega) [e1, c1, e2, e3, e4, ← hm, e5, al]
          rfl)
  refine ⟨u', v', h', t', rs', w', ?_, x6', x7', by rw [e]⟩
  have : (rngD 0 n.toNat).length ≤ 29 := by simp [rngD]; omega
  have hl' : rs'.length ≤ 1 + (rngD 0 n.toNat).length := hl'
  omega
theorem drawn_spec (a b : Int) : ∃ a' b' h t rs, Rw h t rs ∧ rs.length ≤ 30 ∧ F__law_drawn [.ml [.int a, .int b]] = .ok (.mt [row h t (falls h rs), .ml (rs.map Rd), .int h, .int t]) [.ml [.int a', .int b']] := by
  obtain ⟨a1, b1, few, f0, f1, e1⟩ := dr_1 a b
  obtain ⟨a2, b2, h2, t2, rs2, x2, w2, t2b, l2, e2⟩ := dr_2 (u := a1) (v := b1) f0 f1
  obtain ⟨a3, b3, h3, t3, rs3, x3, x7, w3, l3, e3⟩ := dr_3 (u := a2) (v := b2) (x6 := x2) f0 f1 w2 t2b l2
  refine ⟨a3, b3, h3, t3, rs3, w3, l3, ?_⟩
  have e4 : dr4 [0] (sR a3 b3 h3 t3 rs3 few x3 x7) = .rt (.mt [row h3 t3 (falls h3 rs3), .ml (rs3.map Rd), .int h3, .int t3]) [some (.ml [.int a3, .int b3]), none, none, some (.int h3), some (.int t3), some (.int few), x3, x7] := by
    unfold dr4
    simp
  have e5 : dr [0] [some (.ml [.int a, .int b]), none, none, none, none, none, none, none] = .rt (.mt [row h3 t3 (falls h3 rs3), .ml (rs3.map Rd), .int h3, .int t3]) [some (.ml [.int a3, .int b3]), none, none, some (.int h3), some (.int t3), some (.int few), x3, x7] := by
    unfold dr
    rw [sv_seq, e1, seqN, sv_seq, e2, seqN, sv_seq, e3, seqN, e4]
  rw [dr_eq, fn_ap, if_pos ⟨rfl, by decide⟩]
  show endF _ (dr [0] [some (.ml [.int a, .int b]), none, none, none, none, none, none, none]) = _
  rw [e5]
  simp
end K06

set_option Elab.async false
set_option linter.all false
set_option maxRecDepth 100000
set_option maxHeartbeats 4000000
namespace K06
open PySem L2 Dn
noncomputable def dw1 : SV := (dPar [2, 3, 4, 5] (foldA [(dMake 1 F_Row___init__ "Row" (foldA [])), (dLst (foldA [])), (dCst (.int 0)), (dCst (.int 0))]))
noncomputable def dw2 : SV := (dIf (dTB (d2 (cmpD' .Eq) (dCall 2 F__law_take (foldA [(dVar 0), (dCst (.int 3))])) (dCst (.int 0)))) (dSeq (dPar [4, 6] (foldA [(dCall 2 F__law_pick (foldA [(dVar 0), (dFrz (dLst (foldA [(dFrz (dCst (.int 0))), (dFrz (dCst (.int 0))), (dFrz (dCst (.int 1))), (dFrz (dCst (.int 3))), (dFrz (d2 (binD .Sub) (d2 (binD .Pow) (dCst (.int 10)) (dCst (.int 12))) (dCst (.int 50))))])))])), (dCall 2 F__law_number (foldA [(dVar 0), (dVar 1)]))])) (dSeq (dPar [2, 5] (foldA [(dCall 2 F_begun_row (foldA [(dVar 4), (dVar 6)])), (dVar 4)])) (dIf (dOrT (dTB (d2 (cmpD' .Gt) (dVar 4) (dCst (.int 0)))) (dTB (d2 (cmpD' .IsNot) (dVar 6) (dCst .non)))) (dSet 3 (dLst (foldA [(dFrz (dTup (foldA [(dFrz (dVar 4)), (dFrz (dVar 6))])))]))) dPass))) dPass)
noncomputable def dw3b1 : SV := (dSet 8 (dCall 4 F__law_deed (foldA [(dVar 0), (dVar 4), (dVar 5), (dVar 1)])))
noncomputable def dw3b2 : SV := (dIf (dTB (d2 (cmpD' .NotEq) (dCall 2 F__law_take_in (foldA [(dVar 2), (dVar 8)])) (dCall 3 F__law_due (foldA [(dVar 8), (dVar 4), (dVar 5)])))) (dRet (dCst .non)) dPass)
noncomputable def dw3b3 : SV := (dIf (dAndT (dTB (d2 (cmpD' .Eq) (d2 ixD (dVar 8) (dCst (.int 0))) (dCst (.str "told")))) (dTB (d2 (cmpD' .Gt) (d2 ixD (dVar 8) (dCst (.int 1))) (dVar 5)))) (dSeq (dSet 5 (d2 ixD (dVar 8) (dCst (.int 1)))) (dDrop (dAppend 3 (dFrz (dTup (foldA [(dFrz (dVar 5)), (dFrz (d2 ixD (dVar 8) (dCst (.int 2))))])))))) (dIf (dAndT (dTB (d2 (cmpD' .Eq) (d2 ixD (dVar 8) (dCst (.int 0))) (dCst (.str "acked")))) (dTB (dChain .Lt .LtE (dVar 4) (d2 ixD (dVar 8) (dCst (.int 1))) (dVar 5)))) (dSet 4 (d2 ixD (dVar 8) (dCst (.int 1)))) dPass))
noncomputable def dw3b : SV := dSeq dw3b1 (dSeq dw3b2 dw3b3)
noncomputable def dw3 : SV := (dFor (dRng (foldA [(dCall 2 F__law_pick (foldA [(dVar 0), (dFrz (dLst (foldA [(dFrz (dCst (.int 0))), (dFrz (dCst (.int 2))), (dFrz (dCst (.int 4))), (dFrz (dCst (.int 10))), (dFrz (dCst (.int 20)))])))]))])) (.nm 7) dw3b)
noncomputable def dw4 : SV := (dRet (dTup (foldA [(dFrz (dVar 2)), (dFrz (dVar 3)), (dFrz (dVar 4)), (dFrz (dVar 5))])))
noncomputable def dw : SV := dSeq dw1 (dSeq dw2 (dSeq dw3 dw4))
theorem dw_eq : F__law_drawn_two = dFn 2 9 dw := f__law_drawn_two
/-! #### the second draw -/
theorem str_ne2 : ¬ (("told" : Str) = "acked") := by decide +kernel
abbrev sW (u v few h t : Int) (rs : List Rp) (x6 x7 x8 : Option D) : Sl :=
  [some (.ml [.int u, .int v]), some (.int few), some (row h t (falls h rs)), some (.ml (rs.map Rd)), some (.int h), some (.int t), x6, x7, x8]
theorem dw_1 (u v few : Int) : dw1 [0] [some (.ml [.int u, .int v]), some (.int few), none, none, none, none, none, none, none] = .nx (sW u v few 0 0 [] none none none) := by
  unfold dw1
  simp [init_spec]
  rfl
theorem dw_2 {u v few : Int} (f0 : 0 < few) (f1 : few < 1000) : ∃ u' v' h t rs x6, Rw h t rs ∧ rs.length ≤ 1 ∧ dw2 [0] (sW u v few 0 0 [] none none none) = .nx (sW u' v' few h t rs x6 none none) := by
  obtain ⟨a1, b1, r1, p1, q1, e1⟩ := take_spec u v 3 (by decide) (by decide)
  by_cases c0 : r1 = 0
  · obtain ⟨a2, b2, v2, m2, e2⟩ := pick_spec a1 b1 [.int 0, .int 0, .int 1, .int 3, .int 999999999950] (Nat.succ_pos _) (by simp) rfl
    obtain ⟨f, rfl, hf0, hf1⟩ : ∃ x : Int, v2 = .int x ∧ 0 ≤ x ∧ x ≤ 999999999950 := by
      simp only [List.mem_cons, List.not_mem_nil, or_false] at m2
      rcases m2 with h | h | h | h | h <;> exact ⟨_, h, by decide, by decide⟩
    obtain ⟨a3, b3, n, hn, e3⟩ := number_nv a2 b2 few f0 f1
    have e4 := begun_spec f n (nv_sh hn)
    refine ⟨a3, b3, f, f, beg f n, some (Nd n), beg_rw hf0 (by omega) hn, beg_len f n, ?_⟩
    unfold dw2
    have hnn : isNonD (Nd n) = n.isNone := by cases n <;> rfl
    by_cases c1 : 0 < f
    · have eb := beg_gt (n := n) hf0 (.inl c1)
      rw [eb] at e4
      have ef : falls f [(f, n)] = [(f, n)] := by rw [← eb]; exact beg_falls f n
      simp [e1, c0, e2, e3, e4, c1, eb, ef]
      rfl
    · cases n with
      | none =>
        have : f = 0 := by omega
        subst this
        have eb : beg 0 none = [] := if_pos ⟨rfl, rfl⟩
        rw [eb] at e4
        simp [e1, c0, e2, e3, e4, eb]
        rfl
      | some l =>
        have eb := beg_gt (n := some l) hf0 (.inr (by simp))
        rw [eb] at e4
        have ef : falls f [(f, some l)] = [(f, some l)] := by rw [← eb]; exact beg_falls f (some l)
        simp [e1, c0, e2, e3, e4, c1, eb, ef, hnn]
        rfl
  · refine ⟨a1, b1, 0, 0, [], none, empty_rw, by decide, ?_⟩
    unfold dw2
    simp [e1, c0]
/-- what a deed makes of the law's list -/
def nxt (d : De) (h t : Int) (rs : List Rp) : Int × Int × List Rp := match d with
  | .told s n => if t < s then (h, s, rs ++ [(s, n)]) else (h, t, rs)
  | .acked k => if h < k ∧ k ≤ t then (k, t, rs) else (h, t, rs)
theorem nxt_rw {d : De} {h t : Int} {rs : List Rp} (w : Rw h t rs) (hd : DeOk d) : Rw (nxt d h t rs).1 (nxt d h t rs).2.1 (nxt d h t rs).2.2 := by
  cases d with
  | told s n =>
    show Rw (if t < s then _ else _ : Int × Int × List Rp).1 (if t < s then _ else _ : Int × Int × List Rp).2.1 (if t < s then _ else _ : Int × Int × List Rp).2.2
    by_cases c : t < s
    · rw [if_pos c]; exact w.told c (show s ≤ _ by have := hd.1; omega) hd.2
    · rw [if_neg c]; exact w
  | acked k =>
    show Rw (if h < k ∧ k ≤ t then _ else _ : Int × Int × List Rp).1 (if h < k ∧ k ≤ t then _ else _ : Int × Int × List Rp).2.1 (if h < k ∧ k ≤ t then _ else _ : Int × Int × List Rp).2.2
    by_cases c : h < k ∧ k ≤ t
    · rw [if_pos c]; exact w.acked c
    · rw [if_neg c]; exact w
theorem nxt_len (d : De) (h t : Int) (rs : List Rp) : (nxt d h t rs).2.2.length ≤ rs.length + 1 := by
  cases d with
  | told s n =>
    show (if t < s then _ else _ : Int × Int × List Rp).2.2.length ≤ _
    split
    · simp
    · simp
  | acked k =>
    show (if h < k ∧ k ≤ t then _ else _ : Int × Int × List Rp).2.2.length ≤ _
    split <;> simp
theorem nxt_aft {d : De} {h t : Int} {rs : List Rp} (w : Rw h t rs) : aft d h t (falls h rs) = row (nxt d h t rs).1 (nxt d h t rs).2.1 (falls (nxt d h t rs).1 (nxt d h t rs).2.2) := by
  cases d with
  | told s n =>
    unfold aft nxt
    by_cases c : t < s
    · dsimp only
      rw [if_pos c, if_pos c, ← falls_told w c]
    · dsimp only
      rw [if_neg c, if_neg c]
  | acked k =>
    unfold aft nxt
    by_cases c : h < k ∧ k ≤ t
    · dsimp only
      rw [if_pos c, if_pos c, falls_ack (Int.le_of_lt c.1)]
    · dsimp only
      rw [if_neg c, if_neg c]
theorem dw_b {u v few h t : Int} {rs : List Rp} {x6 x7 x8 : Option D} (f0 : 0 < few) (f1 : few < 1000) (w : Rw h t rs) (hl : rs.length < 100) :
    ∃ u' v' h' t' rs' x8', Rw h' t' rs' ∧ rs'.length ≤ rs.length + 1 ∧ dw3b [0] (sW u v few h t rs x6 x7 x8) = .nx (sW u' v' few h' t' rs' x6 x7 x8') := by
  obtain ⟨a1, b1, d, hd, e1⟩ := deed_spec u v h t few w.h0 w.ht w.hb f0 f1
  have fl := falls_len (k := h) rs
  have s1 : dw3b1 [0] (sW u v few h t rs x6 x7 x8) = .nx (sW a1 b1 few h t rs x6 x7 (some (DeD d))) := by
    unfold dw3b1
    simp [e1]
  have e2 := takein_spec d h t (falls h rs) (falls_chain rs) (by omega)
  have e3 := due_spec d h t
  have na := nxt_aft (d := d) w
  have nw := nxt_rw w hd
  have nl := nxt_len d h t rs
  have s2 : dw3b2 [0] (sW a1 b1 few h t rs x6 x7 (some (DeD d))) = .nx [some (.ml [.int a1, .int b1]), some (.int few), some (aft d h t (falls h rs)), some (.ml (rs.map Rd)), some (.int h), some (.int t), x6, x7, some (DeD d)] := by
    unfold dw3b2
    simp [e2, e3]
  refine ⟨a1, b1, _, _, _, some (DeD d), nw, nl, ?_⟩
  unfold dw3b
  rw [sv_seq, s1, seqN, sv_seq, s2, seqN, na]
  clear na nw s1 s2 e2 e3 e1
  unfold dw3b3
  cases d with
  | told s n =>
    have al : rs.length < 16777216 := by omega
    by_cases c : t < s
    · have en : nxt (.told s n) h t rs = (h, s, rs ++ [(s, n)]) := if_pos c
      rw [en]
      simp [DeD, c, al]
      rfl
    · have en : nxt (.told s n) h t rs = (h, t, rs) := if_neg c
      rw [en]
      simp [DeD, c, str_ne2]
  | acked k =>
    by_cases c : h < k ∧ k ≤ t
    · have en : nxt (.acked k) h t rs = (k, t, rs) := if_pos c
      rw [en]
      simp [DeD, c, str_ne']
    · have en : nxt (.acked k) h t rs = (h, t, rs) := if_neg c
      rw [en]
      by_cases c1 : h < k
      · have c2 : ¬ k ≤ t := fun z => c ⟨c1, z⟩
        simp [DeD, c1, c2, str_ne']
      · simp [DeD, c1, str_ne']
theorem dw_3 {u v few h t : Int} {rs : List Rp} {x6 : Option D} (f0 : 0 < few) (f1 : few < 1000) (w : Rw h t rs) (hl : rs.length ≤ 1) :
    ∃ u' v' h' t' rs' x7' x8', Rw h' t' rs' ∧ rs'.length ≤ 21 ∧ dw3 [0] (sW u v few h t rs x6 none none) = .nx (sW u' v' few h' t' rs' x6 x7' x8') := by
  obtain ⟨a1, b1, v1, m1, e1⟩ := pick_spec u v [.int 0, .int 2, .int 4, .int 10, .int 20] (Nat.succ_pos _) (by simp) rfl
  obtain ⟨n, rfl, hn0, hn1⟩ : ∃ x : Int, v1 = .int x ∧ 0 ≤ x ∧ x ≤ 20 := by
    simp only [List.mem_cons, List.not_mem_nil, or_false] at m1
    rcases m1 with h | h | h | h | h <;> exact ⟨_, h, by decide, by decide⟩
  unfold dw3
  simp (disch := omega) [e1]
  generalize hf : forGo _ _ _ _ _ _ = r
  obtain ⟨s2, rfl, u', v', h', t', rs', x7', x8', e, w', hl'⟩ := for_of hf (fun j s => ∃ (u' v' h' t' : Int) (rs' : List Rp) (x7' x8' : Option D), s = sW u' v' few h' t' rs' x6 x7' x8' ∧ Rw h' t' rs' ∧ rs'.length ≤ 1 + j)
    ⟨a1, b1, h, t, rs, none, none, rfl, w, by omega⟩ (fun _ _ _ => src_none) (fun j s d ⟨u, v, h, t, rs, x7, x8, e, w, hl⟩ hd => by
      subst e
      obtain ⟨hj, rfl⟩ := rng_get hd
      have hj20 : j < 20 := by omega
      obtain ⟨u', v', h', t', rs', x8', w', l', eb⟩ := dw_b (u := u) (v := v) (x6 := x6) (x7 := some (.int (0 + (j : Int)))) (x8 := x8) f0 f1 w (by omega)
      exact ⟨sW u v few h t rs x6 (some (.int (0 + (j : Int)))) x8, _, by simp, .inl eb, u', v', h', t', rs', _, x8', rfl, w', by omega⟩)
  refine ⟨u', v', h', t', rs', w', ?_, x7', x8', by rw [e]⟩
  have : (rngD 0 n.toNat).length ≤ 20 := by simp [rngD]; omega
  have hl' : rs'.length ≤ 1 + (rngD 0 n.toNat).length := hl'
  omega
theorem drawn_two_spec (a b few : Int) (f0 : 0 < few) (f1 : few < 1000) : ∃ a' b' h t rs, Rw h t rs ∧ rs.length ≤ 21 ∧ F__law_drawn_two [.ml [.int a, .int b], .int few] = .ok (.mt [row h t (falls h rs), .ml (rs.map Rd), .int h, .int t]) [.ml [.int a', .int b'], .int few] := by
  have e1 := dw_1 a b few
  obtain ⟨a2, b2, h2, t2, rs2, x2, w2, l2, e2⟩ := dw_2 (u := a) (v := b) f0 f1
  obtain ⟨a3, b3, h3, t3, rs3, x7, x8, w3, l3, e3⟩ := dw_3 (u := a2) (v := b2) (x6 := x2) f0 f1 w2 l2
  refine ⟨a3, b3, h3, t3, rs3, w3, l3, ?_⟩
  have e4 : dw4 [0] (sW a3 b3 few h3 t3 rs3 x2 x7 x8) = .rt (.mt [row h3 t3 (falls h3 rs3), .ml (rs3.map Rd), .int h3, .int t3]) [some (.ml [.int a3, .int b3]), some (.int few), none, none, some (.int h3), some (.int t3), x2, x7, x8] := by
    unfold dw4
    simp
  have e5 : dw [0] [some (.ml [.int a, .int b]), some (.int few), none, none, none, none, none, none, none] = .rt (.mt [row h3 t3 (falls h3 rs3), .ml (rs3.map Rd), .int h3, .int t3]) [some (.ml [.int a3, .int b3]), some (.int few), none, none, some (.int h3), some (.int t3), x2, x7, x8] := by
    unfold dw
    rw [sv_seq, e1, seqN, sv_seq, e2, seqN, sv_seq, e3, seqN, e4]
  rw [dw_eq, fn_ap, if_pos ⟨rfl, by decide⟩]
  show endF _ (dw [0] [some (.ml [.int a, .int b]), some (.int few), none, none, none, none, none, none, none]) = _
  rw [e5]
  simp
end K06

set_option Elab.async false
set_option linter.all false
set_option maxRecDepth 100000
set_option maxHeartbeats 4000000
namespace K06
open PySem L2 Dn
noncomputable def nr1 : SV := (dUnp (.tp [2, 3, 4]) (dVar 1))
noncomputable def nr2 : SV := (dSet 5 (d2 (binD .Add) (dLst (foldA [(dFrz (dVar 1))])) (dLc (dRng (foldA [(d2 (binD .Sub) (dPrim (bltD .len) (foldA [(dVar 4)])) (dCst (.int 1)))])) (.nm 6) dYes (dFrz (dTup (foldA [(dFrz (dVar 2)), (dFrz (dVar 3)), (dFrz (d2 (binD .Add) (dSl (dVar 4) dNoP (dPart (dVar 6))) (dSl (dVar 4) (dPart (d2 (binD .Add) (dVar 6) (dCst (.int 1)))) dNoP)))]))) [6])))
noncomputable def nr3 : SV := (dIf (dTB (d2 (cmpD' .Gt) (dVar 3) (dCst (.int 0)))) (dSeq (dDrop (dAppend 5 (dFrz (dTup (foldA [(dFrz (dVar 2)), (dFrz (d2 (binD .Add) (dVar 3) (dCst (.int 1)))), (dFrz (d2 (binD .Add) (dSl (dVar 4) dNoP (dPart (d1 negD (dCst (.int 1))))) (dTup (foldA [(dFrz (dTup (foldA [(dFrz (d2 (binD .Add) (dVar 3) (dCst (.int 1)))), (dFrz (d2 ixD (d2 ixD (dVar 4) (d1 negD (dCst (.int 1)))) (dCst (.int 1))))])))]))))]))))) (dSeq (dDrop (dAppend 5 (dFrz (dTup (foldA [(dFrz (dVar 2)), (dFrz (dVar 3)), (dFrz (d2 (binD .Add) (dSl (dVar 4) dNoP (dPart (d1 negD (dCst (.int 1))))) (dTup (foldA [(dFrz (dTup (foldA [(dFrz (dVar 3)), (dFrz (dCst .non))])))]))))]))))) (dIf (dAndT (dTB (d2 (cmpD' .Gt) (d2 ixD (d2 ixD (dVar 4) (dCst (.int 0))) (dCst (.int 0))) (dVar 2))) (dTB (d2 (cmpD' .Gt) (dVar 3) (dVar 2)))) (dDrop (dAppend 5 (dFrz (dTup (foldA [(dFrz (d2 (binD .Add) (dVar 2) (dCst (.int 1)))), (dFrz (dVar 3)), (dFrz (dVar 4))]))))) dPass))) dPass)
noncomputable def nr4 : SV := (dRet (dCall 2 F__law_pick (foldA [(dVar 0), (dIfE (dAndT (dTB (d2 (cmpD' .Gt) (dPrim (bltD .len) (foldA [(dVar 5)])) (dCst (.int 1)))) (dTB (d2 (cmpD' .Gt) (dCall 2 F__law_take (foldA [(dVar 0), (dCst (.int 4))])) (dCst (.int 0))))) (dSl (dVar 5) (dPart (dCst (.int 1))) dNoP) (dVar 5))])))
noncomputable def nr : SV := dSeq nr1 (dSeq nr2 (dSeq nr3 nr4))
theorem nr_eq : F__law_near = dFn 2 7 nr := f__law_near
abbrev stT (h t : Int) (st : List Rp) : D := .tup [.int h, .int t, .tup (st.map Rd)]
/-! ### states near -/
theorem chain_sub {a b : List Rp} (s : a.Sublist b) : chain b → chain a := by
  induction s with
  | slnil => exact id
  | cons x s ih => exact fun h => ih h.2
  | cons_cons x s ih => exact fun h => ⟨fun q hq => h.1 q (s.subset hq), ih h.2⟩
theorem inc_sub {a b : List Rp} (s : a.Sublist b) : inc b → inc a := by
  induction s with
  | slnil => exact id
  | cons x s ih => exact fun h => ih h.2
  | cons_cons x s ih => exact fun h => ⟨fun q hq => h.1 q (s.subset hq), ih h.2⟩
theorem chain_snoc {x : Rp} : ∀ {a : List Rp}, chain a → (∀ q ∈ a, bel q.2 x.2 = true) → chain (a ++ [x])
  | [], _, _ => ⟨fun q z => (nomatch z), trivial⟩
  | r :: a, h, hx => by
    refine ⟨fun q hq => ?_, chain_snoc h.2 fun q hq => hx q (List.mem_cons_of_mem _ hq)⟩
    rcases List.mem_append.mp hq with hq | hq
    · exact h.1 q hq
    · have : q = x := by simpa using hq
      rw [this]; exact hx r List.mem_cons_self
theorem inc_last_lt {s0 : List Rp} {x : Rp} : inc (s0 ++ [x]) → ∀ q ∈ s0, q.1 < x.1 := by
  induction s0 with
  | nil => exact fun _ q z => (nomatch z)
  | cons y s0 ih =>
    intro h q hq
    rcases List.mem_cons.mp hq with e | hq
    · subst e; exact h.1 x (List.mem_append_right _ List.mem_cons_self)
    · exact ih h.2 q hq
theorem inc_init {s0 : List Rp} {x : Rp} (h : inc (s0 ++ [x])) : inc s0 := inc_sub (List.sublist_append_left _ _) h
theorem vs_less {h t : Int} {st : List Rp} (v : Vs h t st) {k : Nat} (hk : k + 1 < st.length) : Vs h t (st.take k ++ st.drop (k + 1)) := by
  have sub : (st.take k ++ st.drop (k + 1)).Sublist st := by
    rw [← List.eraseIdx_eq_take_drop_succ]
    exact List.eraseIdx_sublist _ _
  refine ⟨v.h0, v.ht, chain_sub sub v.ch, inc_sub sub v.ic, fun q hq => v.nm q (sub.subset hq), fun q hq => v.sr q (sub.subset hq), ?_⟩
  rcases v.ls with ⟨e, _⟩ | ⟨s0, n, e⟩
  · rw [e] at hk; simp at hk
  · right
    subst e
    rw [List.length_append, List.length_singleton] at hk
    refine ⟨s0.take k ++ s0.drop (k + 1), n, ?_⟩
    rw [List.take_append_of_le_length (by omega), List.drop_append_of_le_length (by omega), List.append_assoc]
theorem vs_up {h t : Int} {s0 : List Rp} {n : Nu} (v : Vs h t (s0 ++ [(t, n)])) : Vs h (t + 1) (s0 ++ [(t + 1, n)]) := by
  obtain ⟨c1, _, c3⟩ := chain_append v.ch
  have := v.h0
  have := v.ht
  refine ⟨v.h0, by omega, chain_snoc c1 fun q hq => c3 q hq (t, n) List.mem_cons_self, inc_add (inc_init v.ic) fun q hq => ?_, fun q hq => ?_, fun q hq => ?_, .inr ⟨s0, n, rfl⟩⟩
  · have : q.1 < t := inc_last_lt v.ic q hq
    show q.1 < t + 1
    omega
  · rcases List.mem_append.mp hq with z | z
    · exact v.nm q (List.mem_append_left _ z)
    · have : q = (t + 1, n) := by simpa using z
      rw [this]; exact v.nm (t, n) (List.mem_append_right _ List.mem_cons_self)
  · rcases List.mem_append.mp hq with z | z
    · exact v.sr q (List.mem_append_left _ z)
    · have : q = (t + 1, n) := by simpa using z
      rw [this]; left; show max h 1 ≤ t + 1; omega
theorem vs_non {h t : Int} {s0 : List Rp} {n : Nu} (v : Vs h t (s0 ++ [(t, n)])) (ht : 0 < t) : Vs h t (s0 ++ [(t, none)]) := by
  obtain ⟨c1, _, c3⟩ := chain_append v.ch
  have := v.h0
  have := v.ht
  refine ⟨v.h0, by omega, chain_snoc c1 fun q hq => ?_, inc_add (inc_init v.ic) fun q hq => inc_last_lt v.ic q hq, fun q hq => ?_, fun q hq => ?_, .inr ⟨s0, none, rfl⟩⟩
  · have := c3 q hq (t, n) List.mem_cons_self
    show bel q.2 none = true
    cases z : q.2 with
    | none => rw [z] at this; cases this
    | some l => rfl
  · rcases List.mem_append.mp hq with z | z
    · exact v.nm q (List.mem_append_left _ z)
    · have : q = (t, none) := by simpa using z
      rw [this]; exact nv_none
  · rcases List.mem_append.mp hq with z | z
    · exact v.sr q (List.mem_append_left _ z)
    · have : q = (t, none) := by simpa using z
      rw [this]; left; show max h 1 ≤ t; omega
theorem vs_h {h t : Int} {q0 : Rp} {st : List Rp} (v : Vs h t (q0 :: st)) (hq : h < q0.1) (ht : h < t) : Vs (h + 1) t (q0 :: st) := by
  have := v.h0
  refine ⟨by omega, by omega, v.ch, v.ic, v.nm, fun q hm => ?_, v.ls⟩
  left
  rcases List.mem_cons.mp hm with e | hm
  · rw [e]; omega
  · have := v.ic.1 q hm
    omega
def NearD (d : D) : Prop := ∃ h t st, d = stT h t st ∧ Vs h t st ∧ st.length ≤ 21
theorem near_pl {d : D} (h : NearD d) : pl 12 d := by
  obtain ⟨h, t, st, e, v, l⟩ := h
  subst e
  exact pl_state (by omega) fun r hr => nv_sh (v.nm r hr)
theorem near_pure {ds : List D} (h : ∀ d ∈ ds, NearD d) : allPure ds = true := List.all_eq_true.mpr fun d hd => pl_pure (near_pl (h d hd))
theorem cut_take {α : Type} {xs : List α} {k : Nat} (h : k ≤ xs.length) : cutL xs none (some (k : Int)) = xs.take k := by
  unfold cutL
  rw [HT.sIx_nat, HT.sIx_none, Nat.min_eq_left h]
  simp
theorem cut_init {α : Type} {xs : List α} : cutL xs none (some (-1)) = xs.dropLast := by
  unfold cutL
  rw [HT.sIx_none]
  have : HT.sIx xs.length xs.length (some (-1)) = xs.length - 1 := by
    show (if (-1 : Int) < 0 then ((-1 : Int) + (xs.length : Int)).toNat else min (-1 : Int).toNat xs.length) = _
    rw [if_pos (by decide)]
    omega
  rw [this, List.dropLast_eq_take]
  simp
theorem cut_tail {α : Type} {xs : List α} (h : 1 ≤ xs.length) : cutL xs (some 1) none = xs.drop 1 := by
  unfold cutL
  have e : (1 : Int) = ((1 : Nat) : Int) := rfl
  rw [e, HT.sIx_nat, HT.sIx_none, Nat.min_eq_left h]
  exact List.take_of_length_le (by rw [List.length_drop]; omega)
@[simp] theorem bin_addT {a b : List D} : binD .Add (.tup a) (.tup b) = if a.length + b.length ≤ sizeLine then some (.tup (a ++ b)) else none := rfl
theorem bok {α β : Type} (a : α) (ss : Sl) (k : α → Sl → Dn.R β) : (Dn.R.ok a ss).bind k = k a ss := rfl
theorem nr_c {box : D} {h t : Int} {st : List Rp} (v : Vs h t st) (hl : st.length ≤ 21) : ∃ ds : List D, (∀ d ∈ ds, NearD d) ∧ ds.length ≤ 21 ∧
    dLc (dRng (foldA [(d2 (binD .Sub) (dPrim (bltD .len) (foldA [(dVar 4)])) (dCst (.int 1)))])) (.nm 6) dYes (dFrz (dTup (foldA [(dFrz (dVar 2)), (dFrz (dVar 3)), (dFrz (d2 (binD .Add) (dSl (dVar 4) dNoP (dPart (dVar 6))) (dSl (dVar 4) (dPart (d2 (binD .Add) (dVar 6) (dCst (.int 1)))) dNoP)))]))) [6] [some box, some (stT h t st), some (.int h), some (.int t), some (.tup (st.map Rd)), none, none] =
      .ok (.val (.ml ds)) [some box, some (stT h t st), some (.int h), some (.int t), some (.tup (st.map Rd)), none, none] := by
  obtain ⟨j, ej, hlen, _⟩ := len_j (st.map Rd) (by rw [List.length_map]; omega)
  rw [List.length_map] at ej
  have e1 : dRng (foldA [(d2 (binD .Sub) (dPrim (bltD .len) (foldA [(dVar 4)])) (dCst (.int 1)))]) [some box, some (stT h t st), some (.int h), some (.int t), some (.tup (st.map Rd)), none, none] =
      .ok ⟨rngD 0 (st.length - 1), none⟩ [some box, some (stT h t st), some (.int h), some (.int t), some (.tup (st.map Rd)), none, none] := by
    simp [-rng_1, -bl_lenT, hlen]
    rw [rng_1 ⟨by omega, by omega⟩, show (j - 1).toNat = st.length - 1 by omega]
  rw [ev_lc, e1]
  rw [bok, if_pos (by simp)]
  generalize hf : lcGo _ _ _ _ _ _ _ _ = r
  obtain ⟨acc, s, rfl, x6, e, hn, hal, p6⟩ := lc_of hf (fun j acc s => ∃ x6 : Option D, s = [some box, some (stT h t st), some (.int h), some (.int t), some (.tup (st.map Rd)), none, x6] ∧ (∀ d ∈ acc, NearD d) ∧ acc.length ≤ j ∧ (∀ d, x6 = some d → d.pure = true))
    ⟨none, rfl, fun d z => (nomatch z), Nat.le_refl _, fun d z => (by cases z)⟩ (fun j acc s ⟨x6, e, _, _, p6⟩ => by
      subst e
      refine ⟨?_, src_none⟩
      cases x6 with
      | none => simp
      | some d => simp [p6 d rfl]) (fun k acc s d ⟨x6, e, hn, hal, p6⟩ hd => by
      subst e
      obtain ⟨hk, rfl⟩ := rng_get hd
      have hk2 : k + 1 < st.length := by omega
      have vl := vs_less v hk2
      have q1 : cutL (st.map Rd) none (some (k : Int)) = (st.take k).map Rd := by rw [cut_take (by rw [List.length_map]; omega), List.map_take]
      have q2 : cutL (st.map Rd) (some ((k : Int) + 1)) none = (st.drop (k + 1)).map Rd := by rw [cut_drop (by rw [List.length_map]; omega), List.map_drop]
      have nl : (st.take k ++ st.drop (k + 1)).length ≤ 21 := by
        rw [List.length_append, List.length_take, List.length_drop]; omega
      have nd : NearD (stT h t (st.take k ++ st.drop (k + 1))) := ⟨_, _, _, rfl, vl, nl⟩
      have q3 : min k st.length + (st.length - (k + 1)) ≤ 16777216 := by omega
      have q4 : stT h t (st.take k ++ st.drop (k + 1)) = .tup [.int h, .int t, .tup ((st.take k).map Rd ++ (st.drop (k + 1)).map Rd)] := by rw [← List.map_append]
      refine ⟨[some box, some (stT h t st), some (.int h), some (.int t), some (.tup (st.map Rd)), none, some (.int (0 + (k : Int)))], true, [some box, some (stT h t st), some (.int h), some (.int t), some (.tup (st.map Rd)), none, some (.int (0 + (k : Int)))], by simp, rfl, fun _ => ⟨stT h t (st.take k ++ st.drop (k + 1)), [some box, some (stT h t st), some (.int h), some (.int t), some (.tup (st.map Rd)), none, some (.int (0 + (k : Int)))], ?_, rfl, by rw [sizeLine_eq]; omega, some (.int (0 + (k : Int))), rfl, fun d hd => ?_, by rw [List.length_append, List.length_singleton]; omega, fun d z => (by cases z; rfl)⟩, fun z => (by cases z)⟩
      · rw [q4]
        simp [dSl, dPart, asP, dNoP, op3s, slD, rds_pure, -List.map_take, -List.map_drop, q1, q2, q3]
      · rcases List.mem_append.mp hd with z | z
        · exact hn d z
        · have : d = stT h t (st.take k ++ st.drop (k + 1)) := by simpa using z
          rw [this]; exact nd)
  subst e
  refine ⟨acc, hn, ?_, by simp⟩
  have : (rngD 0 (st.length - 1)).length = st.length - 1 := by simp [rngD]
  have hal : acc.length ≤ (rngD 0 (st.length - 1)).length := hal
  omega
end K06

set_option Elab.async false
set_option linter.all false
set_option maxRecDepth 100000
set_option maxHeartbeats 4000000
namespace K06
open PySem L2 Dn

abbrev sN (u v h t : Int) (st : List Rp) (x5 : Option D) : Sl := [some (.ml [.int u, .int v]), some (stT h t st), some (.int h), some (.int t), some (.tup (st.map Rd)), x5, none]
theorem nr_2 {u v h t : Int} {st : List Rp} (w : Vs h t st) (hl : st.length ≤ 21) : ∃ ds : List D, (∀ d ∈ ds, NearD d) ∧ 1 ≤ ds.length ∧ ds.length ≤ 22 ∧ nr2 [0] (sN u v h t st none) = .nx (sN u v h t st (some (.ml ds))) := by
  obtain ⟨ds, hn, hdl, e⟩ := nr_c (box := .ml [.int u, .int v]) w hl
  refine ⟨stT h t st :: ds, fun d hd => ?_, by simp, by simp; omega, ?_⟩
  · rcases List.mem_cons.mp hd with z | z
    · rw [z]; exact ⟨_, _, _, rfl, w, hl⟩
    · exact hn d z
  · have hp := near_pure hn
    have q : 1 + ds.length ≤ sizeLine := by rw [sizeLine_eq]; omega
    unfold nr2
    simp [-ev_lc, e, hp, rds_pure, q]
theorem near_snoc {ds : List D} {d : D} (h : ∀ d ∈ ds, NearD d) (hd : NearD d) : ∀ x ∈ ds ++ [d], NearD x := fun x hx => by
  rcases List.mem_append.mp hx with z | z
  · exact h x z
  · have : x = d := by simpa using z
    rw [this]; exact hd
theorem nr_3 {u v h t : Int} {st : List Rp} {ds : List D} (w : Vs h t st) (hl : st.length ≤ 21) (hn : ∀ d ∈ ds, NearD d) (h1 : 1 ≤ ds.length) (hdl : ds.length ≤ 22) :
    ∃ es : List D, (∀ d ∈ es, NearD d) ∧ 1 ≤ es.length ∧ es.length ≤ 25 ∧ nr3 [0] (sN u v h t st (some (.ml ds))) = .nx (sN u v h t st (some (.ml es))) := by
  by_cases c : 0 < t
  · obtain ⟨s0, n, e⟩ : ∃ s0 n, st = s0 ++ [(t, n)] := by
      rcases w.ls with ⟨_, z⟩ | z
      · omega
      · exact z
    obtain ⟨q0, r0, e'⟩ : ∃ q r, st = q :: r := by
      cases s0 with
      | nil => exact ⟨_, _, e⟩
      | cons a b => exact ⟨_, _, e⟩
    have wu : Vs h t (s0 ++ [(t, n)]) := e ▸ w
    have v1 := vs_up wu
    have v2 := vs_non wu c
    have sl : s0.length + 1 ≤ 21 := by rw [e] at hl; simpa using hl
    have n1 : NearD (stT h (t + 1) (s0 ++ [(t + 1, n)])) := ⟨_, _, _, rfl, v1, by simpa using sl⟩
    have n2 : NearD (stT h t (s0 ++ [(t, none)])) := ⟨_, _, _, rfl, v2, by simpa using sl⟩
    have i1 : atI (st.map Rd) (-1) = some (Rd (t, n)) := by rw [e, List.map_append]; exact atI_last
    have i0 : atI (st.map Rd) 0 = some (Rd q0) := by rw [e', List.map_cons, at0]
    have i2 : ixD (Rd (t, n)) (.int 1) = some (Nd n) := by
      unfold Rd
      rw [Dn.ix_tup, at1]; simp
    have i3 : ixD (Rd q0) (.int 0) = some (.int q0.1) := by
      unfold Rd
      rw [Dn.ix_tup, at0]; rfl
    have ct : cutL (st.map Rd) none (some (-1)) = s0.map Rd := by
      rw [cut_init, e, List.map_append]
      show (s0.map Rd ++ [Rd (t, n)]).dropLast = _
      rw [List.dropLast_concat]
    have q1 : stT h (t + 1) (s0 ++ [(t + 1, n)]) = .tup [.int h, .int (t + 1), .tup (s0.map Rd ++ [.tup [.int (t + 1), Nd n]])] := by
      show D.tup [_, _, D.tup ((s0 ++ [(t + 1, n)]).map Rd)] = _
      rw [List.map_append]; rfl
    have q2 : stT h t (s0 ++ [(t, none)]) = .tup [.int h, .int t, .tup (s0.map Rd ++ [.tup [.int t, .non]])] := by
      show D.tup [_, _, D.tup ((s0 ++ [(t, none)]).map Rd)] = _
      rw [List.map_append]; rfl
    rw [q1] at n1
    rw [q2] at n2
    have m1 := near_snoc hn n1
    have m2 := near_snoc m1 n2
    have al : ds.length < 16777216 := by omega
    have al2 : ds.length + 1 < 16777216 := by omega
    have al3 : ds.length + 1 + 1 < 16777216 := by omega
    have sl2 : s0.length + 1 ≤ sizeLine := by rw [sizeLine_eq]; omega
    have hp := near_pure hn
    by_cases d : h < q0.1 ∧ h < t
    · have v3 := vs_h (q0 := q0) (st := r0) (e' ▸ w) d.1 d.2
      have n3 : NearD (stT (h + 1) t st) := ⟨_, _, _, rfl, e' ▸ v3, hl⟩
      refine ⟨_, near_snoc m2 n3, by simp, by simp; omega, ?_⟩
      unfold nr3
      simp [c, dSl, dPart, asP, dNoP, op3s, slD, ct, i1, i2, i0, i3, d.1, d.2, al, al2, al3, sl2, rds_pure]
    · refine ⟨_, m2, by simp, by simp; omega, ?_⟩
      unfold nr3
      by_cases d1 : h < q0.1
      · have d2 : ¬ h < t := fun z => d ⟨d1, z⟩
        simp [c, dSl, dPart, asP, dNoP, op3s, slD, ct, i1, i2, i0, i3, d1, d2, al, al2, al3, sl2, rds_pure]
      · simp [c, dSl, dPart, asP, dNoP, op3s, slD, ct, i1, i2, i0, i3, d1, al, al2, al3, sl2, rds_pure]
  · refine ⟨ds, hn, h1, by omega, ?_⟩
    unfold nr3
    simp [c]
theorem near_spec {u v h t : Int} {st : List Rp} (w : Vs h t st) (hl : st.length ≤ 21) : ∃ u' v' h' t' st', Vs h' t' st' ∧ st'.length ≤ 21 ∧ F__law_near [.ml [.int u, .int v], stT h t st] = .ok (stT h' t' st') [.ml [.int u', .int v'], stT h t st] := by
  have e1 : nr1 [0] [some (.ml [.int u, .int v]), some (stT h t st), none, none, none, none, none] = .nx (sN u v h t st none) := by
    unfold nr1
    simp
  obtain ⟨ds, hn, h1, h2, e2⟩ := nr_2 (u := u) (v := v) w hl
  obtain ⟨es, hm, g1, g2, e3⟩ := nr_3 (u := u) (v := v) w hl hn h1 h2
  have hp := near_pure hm
  have key : ∃ u' v' d, d ∈ es ∧ nr4 [0] (sN u v h t st (some (.ml es))) = .rt d (sN u' v' h t st (some (.ml es))) := by
    unfold nr4
    by_cases c : (1 : Int) < (es.length : Int)
    · obtain ⟨u1, v1, r, p1, q1, t1⟩ := take_spec u v 4 (by decide) (by decide)
      by_cases c0 : 0 < r
      · have ct : cutL es (some 1) none = es.drop 1 := cut_tail (by omega)
        have hp2 : allPure (es.drop 1) = true := near_pure fun d hd => hm d (List.mem_of_mem_drop hd)
        obtain ⟨u2, v2, d, hd, t2⟩ := pickM_spec u1 v1 (es.drop 1) (by rw [List.length_drop]; omega) (by rw [List.length_drop]; omega) hp2
        refine ⟨u2, v2, d, List.mem_of_mem_drop hd, ?_⟩
        rw [List.drop_one] at ct hp2 t2
        simp [c, c0, t1, t2, dSl, dPart, asP, dNoP, op3s, slD, hp, hp2, ct]
      · obtain ⟨u2, v2, d, hd, t2⟩ := pickM_spec u1 v1 es (by omega) (by omega) hp
        refine ⟨u2, v2, d, hd, ?_⟩
        simp [c, c0, t1, t2]
    · obtain ⟨u2, v2, d, hd, t2⟩ := pickM_spec u v es (by omega) (by omega) hp
      refine ⟨u2, v2, d, hd, ?_⟩
      simp [c, t2]
  obtain ⟨u', v', d, hd, e4⟩ := key
  obtain ⟨h', t', st', ed, w', l'⟩ := hm d hd
  subst ed
  refine ⟨u', v', h', t', st', w', l', ?_⟩
  have e5 : nr [0] [some (.ml [.int u, .int v]), some (stT h t st), none, none, none, none, none] = .rt (stT h' t' st') (sN u' v' h t st (some (.ml es))) := by
    unfold nr
    rw [sv_seq, e1, seqN, sv_seq, e2, seqN, sv_seq, e3, seqN, e4]
  rw [nr_eq, fn_ap, if_pos ⟨rfl, by decide⟩]
  show endF _ (nr [0] [some (.ml [.int u, .int v]), some (stT h t st), none, none, none, none, none]) = _
  rw [e5]
  simp
end K06

set_option Elab.async false
set_option linter.all false
set_option maxRecDepth 100000
set_option maxHeartbeats 4000000
namespace K06
open PySem L2 Dn
noncomputable def ap1 : SV := (dPar [4, 5] (foldA [(dPrim (bltD .min) (foldA [(d2 ixD (dVar 2) (dCst (.int 0))), (d2 ixD (dVar 3) (dCst (.int 0)))])), (dPrim (bltD .min) (foldA [(d2 ixD (dVar 2) (dCst (.int 1))), (d2 ixD (dVar 3) (dCst (.int 1)))]))]))
noncomputable def ap2 : SV := (dIf (dTB (d2 (cmpD' .NotEq) (d2 ixD (dVar 2) (dCst (.int 1))) (d2 ixD (dVar 3) (dCst (.int 1))))) (dRet (d2 (cmpD' .Eq) (dPrim (bltD .sorted) (foldA [(dLst (foldA [(dFrz (dCall 2 F__law_take_in (foldA [(dVar 0), (dTup (foldA [(dFrz (dCst (.str "told"))), (dFrz (d2 (binD .Add) (dVar 5) (dCst (.int 1)))), (dFrz (dCst .non))]))]))), (dFrz (dCall 2 F__law_take_in (foldA [(dVar 1), (dTup (foldA [(dFrz (dCst (.str "told"))), (dFrz (d2 (binD .Add) (dVar 5) (dCst (.int 1)))), (dFrz (dCst .non))]))])))]))])) (dLst (foldA [(dFrz (dCst (.bl false))), (dFrz (dCst (.bl true)))])))) dPass)
noncomputable def ap3 : SV := (dIf (dTB (d2 (cmpD' .NotEq) (d2 ixD (dVar 2) (dCst (.int 0))) (d2 ixD (dVar 3) (dCst (.int 0))))) (dSeq (dSet 6 (dPrim (bltD .max) (foldA [(d2 ixD (dVar 2) (dCst (.int 0))), (d2 ixD (dVar 3) (dCst (.int 0)))]))) (dRet (d2 (cmpD' .Eq) (dPrim (bltD .sorted) (foldA [(dLst (foldA [(dFrz (dCall 2 F__law_take_in (foldA [(dVar 0), (dTup (foldA [(dFrz (dCst (.str "acked"))), (dFrz (dVar 6)), (dFrz (dCst .non))]))]))), (dFrz (dCall 2 F__law_take_in (foldA [(dVar 1), (dTup (foldA [(dFrz (dCst (.str "acked"))), (dFrz (dVar 6)), (dFrz (dCst .non))]))])))]))])) (dLst (foldA [(dFrz (dCst (.bl false))), (dFrz (dCst (.bl true)))]))))) dPass)
noncomputable def ap4 : SV := (dFor (dSeqIt (dFrz (dLc (dSeqIt (dFrz (d2 (binD .Add) (d2 ixD (dVar 2) (dCst (.int 2))) (d2 ixD (dVar 3) (dCst (.int 2)))))) (.nm 7) dYes (dFrz (d2 ixD (dVar 7) (dCst (.int 0)))) [7]))) (.nm 6) (dIf (dROT (dAndT (dTB (d2 (cmpD' .Gt) (dVar 6) (dCst (.int 0)))) (dNotT (dTr (dCall 2 F__law_like (foldA [(dCall 2 F__law_since (foldA [(dVar 0), (dVar 6)])), (dCall 2 F__law_since (foldA [(dVar 1), (dVar 6)]))])))))) (dRet (dCst (.bl true))) dPass))
noncomputable def ap5 : SV := (dRet (dRO (dNotE (dCall 2 F__law_like (foldA [(dMeth false [(("Row", some "least"), ⟨["self"], F_Row_least, H_Row_least⟩)] "least" (dVar 0) []), (dMeth false [(("Row", some "least"), ⟨["self"], F_Row_least, H_Row_least⟩)] "least" (dVar 1) [])])))))
noncomputable def ap : SV := dSeq ap1 (dSeq ap2 (dSeq ap3 (dSeq ap4 ap5)))
theorem ap_eq : F__law_apart = dFn 4 8 ap := f__law_apart
/-! ### rows of unlike states are told apart -/
theorem inc_ext : ∀ {a b : List Rp}, inc a → inc b → (∀ q, q ∈ a ↔ q ∈ b) → a = b
  | [], [], _, _, _ => rfl
  | [], y :: b, _, _, h => absurd ((h y).mpr List.mem_cons_self) (List.not_mem_nil)
  | x :: a, [], _, _, h => absurd ((h x).mp List.mem_cons_self) (List.not_mem_nil)
  | x :: a, y :: b, ha, hb, h => by
    have exy : x = y := by
      rcases List.mem_cons.mp ((h x).mp List.mem_cons_self) with z | z
      · exact z
      · rcases List.mem_cons.mp ((h y).mpr List.mem_cons_self) with w | w
        · exact w.symm
        · have := ha.1 y w
          have := hb.1 x z
          omega
    subst exy
    have : a = b := inc_ext ha.2 hb.2 fun q => by
      constructor
      · intro hq
        rcases List.mem_cons.mp ((h q).mp (List.mem_cons_of_mem _ hq)) with z | z
        · have := ha.1 q hq
          rw [z] at this; omega
        · exact z
      · intro hq
        rcases List.mem_cons.mp ((h q).mpr (List.mem_cons_of_mem _ hq)) with z | z
        · have := hb.1 q hq
          rw [z] at this; omega
        · exact z
    rw [this]
theorem chain_inj : ∀ {st : List Rp}, chain st → ∀ {p q : Rp}, p ∈ st → q ∈ st → p.2 = q.2 → p = q
  | [], _, _, _, h, _, _ => nomatch h
  | x :: st, c, p, q, hp, hq, e => by
    rcases List.mem_cons.mp hp with z | z
    · rcases List.mem_cons.mp hq with w | w
      · rw [z, w]
      · have := c.1 q w
        rw [← z, e, bel_irr] at this; cases this
    · rcases List.mem_cons.mp hq with w | w
      · have := c.1 p z
        rw [← w, e, bel_irr] at this; cases this
      · exact chain_inj c.2 z w e
/-- the first step from a step's own serial on is this one -/
theorem filt_self : ∀ {st : List Rp} {q : Rp}, inc st → q ∈ st → ∃ r, st.filter (fun p => decide (q.1 ≤ p.1)) = q :: r
  | [], _, _, h => nomatch h
  | x :: st, q, i, h => by
    rcases List.mem_cons.mp h with z | z
    · subst z
      exact ⟨_, List.filter_cons_of_pos (by simp)⟩
    · have hx : ¬ q.1 ≤ x.1 := by have := i.1 q z; omega
      rw [List.filter_cons_of_neg (by simp; omega)]
      exact filt_self i.2 z
theorem since_inj {h t : Int} {a b : List Rp} (va : Vs h t a) (vb : Vs h t b) (hd : hdN a = hdN b)
    (hk : ∀ q ∈ a ++ b, 0 < q.1 → hdN (a.filter fun p => decide (q.1 ≤ p.1)) = hdN (b.filter fun p => decide (q.1 ≤ p.1))) : a = b := by
  have lim : ∀ {st : List Rp}, Vs h t st → ∀ q ∈ st, 0 < q.1 → max h 1 ≤ q.1 ∧ q.1 ≤ t := fun v q hq h0 => ⟨by rcases v.sr q hq with z | z <;> omega, v.le hq⟩
  have half : ∀ {a b : List Rp}, Vs h t a → Vs h t b → (∀ q ∈ a ++ b, 0 < q.1 → hdN (a.filter fun p => decide (q.1 ≤ p.1)) = hdN (b.filter fun p => decide (q.1 ≤ p.1))) → ∀ q ∈ a, 0 < q.1 → q ∈ b := by
    intro a b va vb hk q hq h0
    obtain ⟨r, er⟩ := filt_self va.ic hq
    have e1 := hk q (List.mem_append_left _ hq) h0
    rw [er] at e1
    obtain ⟨p, r2, e2⟩ := filt_ne vb (lim va q hq h0)
    rw [e2] at e1
    have e1 : q.2 = p.2 := e1
    have hp2 := List.mem_filter.mp (show p ∈ b.filter fun p => decide (q.1 ≤ p.1) by rw [e2]; exact List.mem_cons_self)
    have hpq : q.1 ≤ p.1 := of_decide_eq_true hp2.2
    obtain ⟨r3, e3⟩ := filt_self vb.ic hp2.1
    have e4 := hk p (List.mem_append_right _ hp2.1) (by omega)
    rw [e3] at e4
    obtain ⟨s, r4, e5⟩ := filt_ne va (lim vb p hp2.1 (by omega))
    rw [e5] at e4
    have e4 : s.2 = p.2 := e4
    have hs := List.mem_filter.mp (show s ∈ a.filter fun x => decide (p.1 ≤ x.1) by rw [e5]; exact List.mem_cons_self)
    have hsp : p.1 ≤ s.1 := of_decide_eq_true hs.2
    have es : s = q := chain_inj va.ch hs.1 hq (by rw [e4, e1])
    rw [es] at hsp
    have : q = p := Prod.ext (by omega) e1
    rw [this]; exact hp2.1
  have ab := half va vb hk
  have ba := half vb va fun q hq h0 => (hk q (by rcases List.mem_append.mp hq with z | z; exact List.mem_append_right _ z; exact List.mem_append_left _ z) h0).symm
  have zero : ∀ {a b : List Rp}, Vs h t a → Vs h t b → hdN a = hdN b → (∀ q ∈ b, 0 < q.1 → q ∈ a) → ∀ q ∈ a, ¬ 0 < q.1 → q ∈ b := by
    intro a b va vb hd ba q hq h0
    have n0 := va.nn hq
    have q0 : q.1 = 0 := by omega
    obtain ⟨s1, s2, s3⟩ : h = 0 ∧ q.1 = 0 ∧ q.2.isSome = true := by
      rcases va.sr q hq with z | z
      · omega
      · exact z
    cases a with
    | nil => exact nomatch hq
    | cons x a =>
      have ex : q = x := by
        rcases List.mem_cons.mp hq with z | z
        · exact z
        · have := va.ic.1 q z
          have := va.nn (List.mem_cons_self (a := x) (l := a))
          omega
      subst ex
      cases b with
      | nil => have hd : q.2 = none := hd
               rw [hd] at s3; cases s3
      | cons p b =>
        have hd : q.2 = p.2 := hd
        by_cases hp : 0 < p.1
        · have := ba p List.mem_cons_self hp
          have := chain_inj va.ch this List.mem_cons_self hd.symm
          rw [this] at hp; omega
        · have := vb.nn (List.mem_cons_self (a := p) (l := b))
          have : q = p := Prod.ext (by omega) hd
          rw [this]; exact List.mem_cons_self
  refine inc_ext va.ic vb.ic fun q => ⟨fun hq => ?_, fun hq => ?_⟩
  · by_cases z : 0 < q.1
    · exact ab q hq z
    · exact zero va vb hd ba q hq z
  · by_cases z : 0 < q.1
    · exact ba q hq z
    · exact zero vb va hd.symm ab q hq z

theorem ints_inj : ∀ {l k : List Int}, l.map D.int = k.map D.int → l = k
  | [], [], _ => rfl
  | [], _ :: _, h => by cases h
  | _ :: _, [], h => by cases h
  | x :: a, y :: b, h => by
    injection h with h1 h2
    injection h1 with h1
    rw [h1, ints_inj h2]
theorem nd_inj {m n : Nu} (h : Nd m = Nd n) : m = n := by
  cases m with
  | none => cases n with
    | none => rfl
    | some l => cases h
  | some l => cases n with
    | none => cases h
    | some k =>
      have h : D.tup (l.map D.int) = .tup (k.map D.int) := h
      injection h with h
      rw [ints_inj h]
theorem sin_inj {h t k : Int} {a b : List Rp} (hk : max h 1 ≤ k ∧ k ≤ t) (e : sinD h t k a = sinD h t k b) : hdN (a.filter fun q => decide (k ≤ q.1)) = hdN (b.filter fun q => decide (k ≤ q.1)) := by
  unfold sinD at e
  rw [if_pos hk, if_pos hk] at e
  injection e with e
  injection e with _ e
  injection e with e _
  exact nd_inj e
abbrev sA (X Y : D) (h1 t1 : Int) (a : List Rp) (h2 t2 : Int) (b : List Rp) (x4 x5 x6 : Option D) : Sl := [some X, some Y, some (stT h1 t1 a), some (stT h2 t2 b), x4, x5, x6, none]
theorem ap_1 {h1 t1 h2 t2 : Int} {a b : List Rp} : ap1 [0, 1] (sA (row h1 t1 a) (row h2 t2 b) h1 t1 a h2 t2 b none none none) = .nx (sA (row h1 t1 a) (row h2 t2 b) h1 t1 a h2 t2 b (some (.int (min h1 h2))) (some (.int (min t1 t2))) none) := by
  unfold ap1
  simp
theorem ap_2 {h1 t1 h2 t2 : Int} {a b : List Rp} (va : Vs h1 t1 a) (vb : Vs h2 t2 b) (la : a.length ≤ 21) (lb : b.length ≤ 21) (x4 : Option D) (ht : t1 ≠ t2) :
    ∃ X Y, ap2 [0, 1] (sA (row h1 t1 a) (row h2 t2 b) h1 t1 a h2 t2 b x4 (some (.int (min t1 t2))) none) = .rt (.bl true) (sA X Y h1 t1 a h2 t2 b x4 (some (.int (min t1 t2))) none) := by
  have e1 := takein_spec (.told (min t1 t2 + 1) none) h1 t1 a va.ch (by omega)
  have e2 := takein_spec (.told (min t1 t2 + 1) none) h2 t2 b vb.ch (by omega)
  have d1 : DeD (.told (min t1 t2 + 1) none) = .tup [.str "told", .int (min t1 t2 + 1), .non] := rfl
  rw [d1] at e1 e2
  refine ⟨aft (.told (min t1 t2 + 1) none) h1 t1 a, aft (.told (min t1 t2 + 1) none) h2 t2 b, ?_⟩
  unfold ap2
  have c : (dueB (.told (min t1 t2 + 1) none) h1 t1 && dueB (.told (min t1 t2 + 1) none) h2 t2) = false ∧ (dueB (.told (min t1 t2 + 1) none) h1 t1 || dueB (.told (min t1 t2 + 1) none) h2 t2) = true := by
    show (decide (t1 < min t1 t2 + 1) && decide (t2 < min t1 t2 + 1)) = false ∧ (decide (t1 < min t1 t2 + 1) || decide (t2 < min t1 t2 + 1)) = true
    rcases Int.lt_or_gt_of_ne ht with z | z
    · rw [decide_eq_true (show t1 < min t1 t2 + 1 by omega), decide_eq_false (show ¬ t2 < min t1 t2 + 1 by omega)]; exact ⟨rfl, rfl⟩
    · rw [decide_eq_false (show ¬ t1 < min t1 t2 + 1 by omega), decide_eq_true (show t2 < min t1 t2 + 1 by omega)]; exact ⟨rfl, rfl⟩
  simp [ht, e1, e2, eq_two_bl, c.1, c.2]
theorem ap_3 {h1 h2 t : Int} {a b : List Rp} (va : Vs h1 t a) (vb : Vs h2 t b) (la : a.length ≤ 21) (lb : b.length ≤ 21) (x4 x5 : Option D) (hh : h1 ≠ h2) :
    ∃ X Y x6, ap3 [0, 1] (sA (row h1 t a) (row h2 t b) h1 t a h2 t b x4 x5 none) = .rt (.bl true) (sA X Y h1 t a h2 t b x4 x5 x6) := by
  have e1 := takein_spec (.acked (max h1 h2)) h1 t a va.ch (by omega)
  have e2 := takein_spec (.acked (max h1 h2)) h2 t b vb.ch (by omega)
  have d1 : DeD (.acked (max h1 h2)) = .tup [.str "acked", .int (max h1 h2), .non] := rfl
  rw [d1] at e1 e2
  refine ⟨aft (.acked (max h1 h2)) h1 t a, aft (.acked (max h1 h2)) h2 t b, some (.int (max h1 h2)), ?_⟩
  unfold ap3
  have c : (dueB (.acked (max h1 h2)) h1 t && dueB (.acked (max h1 h2)) h2 t) = false ∧ (dueB (.acked (max h1 h2)) h1 t || dueB (.acked (max h1 h2)) h2 t) = true := by
    show ((decide (h1 < max h1 h2) && decide (max h1 h2 ≤ t)) && (decide (h2 < max h1 h2) && decide (max h1 h2 ≤ t))) = false ∧ ((decide (h1 < max h1 h2) && decide (max h1 h2 ≤ t)) || (decide (h2 < max h1 h2) && decide (max h1 h2 ≤ t))) = true
    have := va.ht
    have := vb.ht
    rw [decide_eq_true (show max h1 h2 ≤ t by omega)]
    rcases Int.lt_or_gt_of_ne hh with z | z
    · rw [decide_eq_true (show h1 < max h1 h2 by omega), decide_eq_false (show ¬ h2 < max h1 h2 by omega)]; exact ⟨rfl, rfl⟩
    · rw [decide_eq_false (show ¬ h1 < max h1 h2 by omega), decide_eq_true (show h2 < max h1 h2 by omega)]; exact ⟨rfl, rfl⟩
  simp [hh, e1, e2, eq_two_bl, c.1, c.2]
theorem ap_2n {h1 h2 t : Int} {a b : List Rp} {X Y : D} {x4 x5 : Option D} : ap2 [0, 1] (sA X Y h1 t a h2 t b x4 x5 none) = .nx (sA X Y h1 t a h2 t b x4 x5 none) := by
  unfold ap2
  simp
theorem ap_3n {h t : Int} {a b : List Rp} {X Y : D} {x4 x5 : Option D} : ap3 [0, 1] (sA X Y h t a h t b x4 x5 none) = .nx (sA X Y h t a h t b x4 x5 none) := by
  unfold ap3
  simp
theorem ap_c {h t : Int} {a b : List Rp} (la : a.length ≤ 21) (lb : b.length ≤ 21) (x4 x5 : Option D) :
    dLc (dSeqIt (dFrz (d2 (binD .Add) (d2 ixD (dVar 2) (dCst (.int 2))) (d2 ixD (dVar 3) (dCst (.int 2)))))) (.nm 7) dYes (dFrz (d2 ixD (dVar 7) (dCst (.int 0)))) [7] (sA (row h t a) (row h t b) h t a h t b x4 x5 none) =
      .ok (.val (.ml ((a ++ b).map fun q => D.int q.1))) (sA (row h t a) (row h t b) h t a h t b x4 x5 none) := by
  have e1 : dSeqIt (dFrz (d2 (binD .Add) (d2 ixD (dVar 2) (dCst (.int 2))) (d2 ixD (dVar 3) (dCst (.int 2))))) (sA (row h t a) (row h t b) h t a h t b x4 x5 none) = .ok ⟨(a ++ b).map Rd, none⟩ (sA (row h t a) (row h t b) h t a h t b x4 x5 none) := by
    have q : a.length + b.length ≤ sizeLine := by rw [sizeLine_eq]; omega
    simp [q]
  rw [ev_lc, e1]
  rw [bok, if_pos (by simp)]
  generalize hf : lcGo _ _ _ _ _ _ _ _ = r
  obtain ⟨acc, s, rfl, x7, e, hn, p7⟩ := lc_of hf (fun j acc s => ∃ x7 : Option D, s = [some (row h t a), some (row h t b), some (stT h t a), some (stT h t b), x4, x5, none, x7] ∧ acc = ((a ++ b).take j).map (fun q => D.int q.1) ∧ (∀ d, x7 = some d → d.pure = true))
    ⟨none, rfl, by simp, fun d z => (by cases z)⟩ (fun j acc s ⟨x7, e, _, p7⟩ => by
      subst e
      refine ⟨?_, src_none⟩
      cases x7 with
      | none => simp
      | some d => simp [p7 d rfl]) (fun j acc s d ⟨x7, e, hn, p7⟩ hd => by
      subst e
      have hd : ((a ++ b).map Rd)[j]? = some d := hd
      rw [List.getElem?_map] at hd
      cases hp : (a ++ b)[j]? with
      | none => rw [hp] at hd; cases hd
      | some p =>
        rw [hp] at hd
        have hd : Rd p = d := by simpa using hd
        subst hd
        have hj : j < (a ++ b).length := (List.getElem?_eq_some_iff.mp hp).1
        have hge : (a ++ b)[j] = p := (List.getElem?_eq_some_iff.mp hp).2
        have tk : (a ++ b).take (j + 1) = (a ++ b).take j ++ [p] := by rw [List.take_succ_eq_append_getElem hj, hge]
        have al : acc.length < sizeLine := by
          rw [sizeLine_eq, hn, List.length_map, List.length_take]
          rw [List.length_append] at hj ⊢
          omega
        refine ⟨[some (row h t a), some (row h t b), some (stT h t a), some (stT h t b), x4, x5, none, some (Rd p)], true, [some (row h t a), some (row h t b), some (stT h t a), some (stT h t b), x4, x5, none, some (Rd p)], by simp, rfl, fun _ => ⟨.int p.1, [some (row h t a), some (row h t b), some (stT h t a), some (stT h t b), x4, x5, none, some (Rd p)], by simp [-Dn.ix_tup, ix_rd0], rfl, al, some (Rd p), rfl, ?_, fun d z => (by cases z; rfl)⟩, fun z => (by cases z)⟩
        rw [hn, tk, List.map_append]; rfl)
  subst e
  have e3 : (ItD.mk ((a ++ b).map Rd) none).ds.length = (a ++ b).length := List.length_map _
  rw [e3, List.take_length] at hn
  subst hn
  simp
open Classical in
theorem ap_45 {h t : Int} {a b : List Rp} (va : Vs h t a) (vb : Vs h t b) (la : a.length ≤ 21) (lb : b.length ≤ 21) (x4 x5 : Option D) (ne : a ≠ b) :
    ∃ x6, (ap4 [0, 1] (sA (row h t a) (row h t b) h t a h t b x4 x5 none)).seq (ap5 [0, 1]) = .rt (.bl true) (sA (row h t a) (row h t b) h t a h t b x4 x5 x6) := by
  have ec := ap_c (h := h) (t := t) la lb x4 x5
  have hip : allPure ((a ++ b).map fun q => D.int q.1) = true := List.all_eq_true.mpr fun d hd => by
    obtain ⟨q, _, e⟩ := List.mem_map.mp hd
    rw [← e]; rfl
  unfold ap4
  rw [sv_for, iv_seq, ev_frz, ec]
  rw [bok, frz_ml, if_pos hip, bok, seqIt_lst]
  rw [show ∀ (it : ItD) (ss : Sl) (k : ItD → Sl → RS), (Dn.R.ok it ss).toS k = k it ss from fun _ _ _ => rfl]
  rw [lk_none]
  generalize hf : forGo _ _ _ _ _ _ = r
  rcases for_or_of (it := ⟨(a ++ b).map fun q => D.int q.1, none⟩) hf (fun k s => ∃ x6, s = sA (row h t a) (row h t b) h t a h t b x4 x5 x6 ∧ ∀ j q, j < k → (a ++ b)[j]? = some q → 0 < q.1 → sinD h t q.1 a = sinD h t q.1 b)
    (fun k r => ∃ x6, r = .rt (.bl true) (sA (row h t a) (row h t b) h t a h t b x4 x5 x6))
    ⟨none, rfl, fun j q z => absurd z (Nat.not_lt_zero _)⟩ (fun k s _ => src_none) (fun k s d ⟨x6, e, hj⟩ hd => by
      subst e
      have hd : ((a ++ b).map fun q => D.int q.1)[k]? = some d := hd
      rw [List.getElem?_map] at hd
      cases hp : (a ++ b)[k]? with
      | none => rw [hp] at hd; cases hd
      | some p =>
        rw [hp] at hd
        have hd : D.int p.1 = d := by simpa using hd
        subst hd
        have s1 := law_since (k := p.1) va (by omega)
        have s2 := law_since (k := p.1) vb (by omega)
        have l1 := like_dec (pl_mono (k := 12) (by decide) (sin_pl (k := p.1) va)) (pl_mono (k := 12) (by decide) (sin_pl (k := p.1) vb))
        refine ⟨sA (row h t a) (row h t b) h t a h t b x4 x5 (some (.int p.1)), by simp, ?_⟩
        by_cases c0 : 0 < p.1
        · by_cases c1 : sinD h t p.1 a = sinD h t p.1 b
          · refine .inl ⟨sA (row h t a) (row h t b) h t a h t b x4 x5 (some (.int p.1)), .inl ?_, _, rfl, fun j q hj2 hq hq0 => ?_⟩
            · rw [decide_eq_true c1] at l1
              simp [c0, s1, s2, l1]
            · rcases Nat.lt_succ_iff_lt_or_eq.mp hj2 with z | z
              · exact hj j q z hq hq0
              · subst z; rw [hp] at hq; cases hq; exact c1
          · rw [decide_eq_false c1] at l1
            exact .inr ⟨by simp [c0, s1, s2, l1, stops], some (.int p.1), by simp [c0, s1, s2, l1]⟩
        · refine .inl ⟨sA (row h t a) (row h t b) h t a h t b x4 x5 (some (.int p.1)), .inl (by simp [c0]), _, rfl, fun j q hj2 hq hq0 => ?_⟩
          rcases Nat.lt_succ_iff_lt_or_eq.mp hj2 with z | z
          · exact hj j q z hq hq0
          · subst z; rw [hp] at hq; cases hq; exact absurd hq0 c0) with ⟨s', e1, x6, e2, hk⟩ | ⟨k, _, x6, e1⟩
  · subst e1; subst e2
    refine ⟨x6, ?_⟩
    have e3 : (ItD.mk ((a ++ b).map fun q => D.int q.1) none).ds.length = (a ++ b).length := List.length_map _
    rw [e3] at hk
    have hne : hdN a ≠ hdN b := fun z => ne (since_inj va vb z fun q hq h0 => by
      obtain ⟨j, hj, e⟩ := List.mem_iff_getElem.mp hq
      refine sin_inj ?_ (hk j q hj (by rw [List.getElem?_eq_getElem hj, e]) h0)
      rcases List.mem_append.mp hq with z | z
      · exact ⟨by rcases va.sr q z with z | z <;> omega, va.le z⟩
      · exact ⟨by rcases vb.sr q z with z | z <;> omega, vb.le z⟩)
    have l2 := like_dec (pl_mono (k := 12) (by decide) (pl_nd (hdN a) (hdN_sh fun q hq => nv_sh (va.nm q hq)))) (pl_mono (k := 12) (by decide) (pl_nd (hdN b) (hdN_sh fun q hq => nv_sh (vb.nm q hq))))
    rw [decide_eq_false (fun z => hne (nd_inj z))] at l2
    have m1 := least_all h t a (by omega)
    have m2 := least_all h t b (by omega)
    unfold ap5
    simp [m1, m2, l2, seqN]
  · subst e1
    exact ⟨x6, rfl⟩
theorem apart_spec {h1 t1 h2 t2 : Int} {a b : List Rp} (va : Vs h1 t1 a) (vb : Vs h2 t2 b) (la : a.length ≤ 21) (lb : b.length ≤ 21) (ne : ¬ (h1 = h2 ∧ t1 = t2 ∧ a = b)) :
    ∃ X Y, F__law_apart [row h1 t1 a, row h2 t2 b, stT h1 t1 a, stT h2 t2 b] = .ok (.bl true) [X, Y, stT h1 t1 a, stT h2 t2 b] := by
  have key : ∃ X Y x4 x5 x6, ap [0, 1] (sA (row h1 t1 a) (row h2 t2 b) h1 t1 a h2 t2 b none none none) = .rt (.bl true) (sA X Y h1 t1 a h2 t2 b x4 x5 x6) := by
    unfold ap
    rw [sv_seq, ap_1, seqN]
    by_cases ht : t1 = t2
    · subst ht
      rw [sv_seq, ap_2n, seqN]
      by_cases hh : h1 = h2
      · subst hh
        obtain ⟨x6, e⟩ := ap_45 va vb la lb (some (.int (min h1 h1))) (some (.int (min t1 t1))) (fun z => ne ⟨rfl, rfl, z⟩)
        rw [sv_seq, ap_3n, seqN, sv_seq, e]
        exact ⟨_, _, _, _, _, rfl⟩
      · obtain ⟨X, Y, x6, e⟩ := ap_3 va vb la lb (some (.int (min h1 h2))) (some (.int (min t1 t1))) hh
        rw [sv_seq, e]
        exact ⟨X, Y, _, _, x6, rfl⟩
    · obtain ⟨X, Y, e⟩ := ap_2 va vb la lb (some (.int (min h1 h2))) ht
      rw [sv_seq, e]
      exact ⟨X, Y, _, _, none, rfl⟩
  obtain ⟨X, Y, x4, x5, x6, e⟩ := key
  refine ⟨X, Y, ?_⟩
  rw [ap_eq, fn_ap, if_pos ⟨rfl, by decide⟩]
  show endF _ (ap [0, 1] (sA (row h1 t1 a) (row h2 t2 b) h1 t1 a h2 t2 b none none none)) = _
  rw [e]
  simp
end K06

set_option Elab.async false
set_option linter.all false
set_option maxRecDepth 100000
set_option maxHeartbeats 4000000
namespace K06
open PySem L2 Dn
noncomputable def sp1 : SV := (dUnp (.tp [2, 3, 4]) (dVar 1))
noncomputable def sp2 : SV := (dSet 5 (dCall 2 F__law_take (foldA [(dVar 0), (dPrim (bltD .len) (foldA [(dVar 4)]))])))
noncomputable def sp3 : SV := (dUnp (.tp [6, 7]) (d2 ixD (dVar 4) (dVar 5)))
noncomputable def sp4 : SV := (dSet 8 (dIfE (dTB (d2 (cmpD' .Gt) (dVar 5) (dCst (.int 0)))) (d2 ixD (dVar 4) (d2 (binD .Sub) (dVar 5) (dCst (.int 1)))) (dTup (foldA [(dFrz (dCst (.int 0))), (dFrz (dTup (foldA [(dFrz (dCst (.int 0))), (dFrz (dCst (.int 0)))])))]))))
noncomputable def sp5 : SV := (dSet 9 (dLst (foldA [(dFrz (dTup (foldA [(dFrz (d2 (binD .Sub) (dVar 6) (dCst (.int 1)))), (dFrz (dVar 7))]))), (dFrz (dTup (foldA [(dFrz (d2 (binD .Add) (dVar 6) (dCst (.int 1)))), (dFrz (dVar 7))]))), (dFrz (dTup (foldA [(dFrz (dVar 2)), (dFrz (dVar 7))]))), (dFrz (dTup (foldA [(dFrz (d2 (binD .Sub) (dVar 2) (dCst (.int 1)))), (dFrz (dVar 7))]))), (dFrz (dTup (foldA [(dFrz (dCst (.int 0))), (dFrz (dVar 7))]))), (dFrz (dTup (foldA [(dFrz (d1 negD (dCst (.int 1)))), (dFrz (dVar 7))]))), (dFrz (dTup (foldA [(dFrz (dCst (.bl true))), (dFrz (dVar 7))])))])))
noncomputable def sp6 : SV := (dSet 9 (d2 (binD .Add) (dVar 9) (dLst (foldA [(dFrz (dTup (foldA [(dFrz (dVar 6)), (dFrz (d2 ixD (dVar 8) (dCst (.int 1))))]))), (dFrz (dTup (foldA [(dFrz (dVar 6)), (dFrz (dCst .non))]))), (dFrz (dTup (foldA [(dFrz (dVar 6)), (dFrz (dTup (foldA [(dFrz (dCst (.int 0))), (dFrz (dCst (.int 0)))])))]))), (dFrz (dTup (foldA [(dFrz (dVar 6)), (dFrz (dTup (foldA [(dFrz (dCst (.int 5)))])))]))), (dFrz (dTup (foldA [(dFrz (dVar 6)), (dFrz (dLst (foldA [(dFrz (dCst (.int 5))), (dFrz (dCst (.int 3)))])))]))), (dFrz (dTup (foldA [(dFrz (dVar 6)), (dFrz (dTup (foldA [(dFrz (dCst (.int 5))), (dFrz (dCst (.int 32)))])))]))), (dFrz (dTup (foldA [(dFrz (dVar 6)), (dFrz (dTup (foldA [(dFrz (d1 negD (dCst (.int 1)))), (dFrz (dCst (.int 3)))])))])))]))))
noncomputable def sp7 : SV := (dSet 9 (d2 (binD .Add) (dVar 9) (dLst (foldA [(dFrz (dTup (foldA [(dFrz (dVar 6)), (dFrz (dTup (foldA [(dFrz (dCst (.bl true))), (dFrz (dCst (.int 3)))])))]))), (dFrz (dTup (foldA [(dFrz (dVar 6)), (dFrz (dTup (foldA [(dFrz (dCst (.int 5))), (dFrz (dCst (.int 3))), (dFrz (dCst (.str "a")))])))]))), (dFrz (dTup (foldA [(dFrz (d2 ixD (dVar 8) (dCst (.int 0)))), (dFrz (dVar 7))]))), (dFrz (dTup (foldA [(dFrz (dVar 6))]))), (dFrz (dTup (foldA [(dFrz (dVar 6)), (dFrz (dVar 7)), (dFrz (dVar 7))]))), (dFrz (dLst (foldA [(dFrz (dVar 6)), (dFrz (dVar 7))])))]))))
noncomputable def sp8 : SV := (dSet 9 (d2 (binD .Add) (dVar 9) (dLst (foldA [(dFrz (dVar 6)), (dFrz (dTup (foldA [(dFrz (dCst .non)), (dFrz (dVar 7))]))), (dFrz (dTup (foldA [(dFrz (dVar 6)), (dFrz (dCst (.int 0)))]))), (dFrz (dTup (foldA [(dFrz (dVar 6)), (dFrz (dTup (foldA [])))]))), (dFrz (dTup (foldA [(dFrz (dVar 6)), (dFrz (dTup (foldA [(dFrz (dCst (.int 5))), (dFrz (dCst (.int 3))), (dFrz (d1 negD (dCst (.int 1))))])))]))), (dFrz (dTup (foldA [(dFrz (dPrim (bltD .str) (foldA [(dVar 6)]))), (dFrz (dVar 7))]))), (dFrz (dTup (foldA [(dFrz (dVar 6)), (dFrz (dCst (.bl false)))])))]))))
noncomputable def sp9 : SV := (dRet (dTup (foldA [(dFrz (dVar 2)), (dFrz (dVar 3)), (dFrz (d2 (binD .Add) (d2 (binD .Add) (dSl (dVar 4) dNoP (dPart (dVar 5))) (dTup (foldA [(dFrz (dCall 2 F__law_pick (foldA [(dVar 0), (dVar 9)])))]))) (dSl (dVar 4) (dPart (d2 (binD .Add) (dVar 5) (dCst (.int 1)))) dNoP)))])))
noncomputable def sp : SV := dSeq sp1 (dSeq sp2 (dSeq sp3 (dSeq sp4 (dSeq sp5 (dSeq sp6 (dSeq sp7 (dSeq sp8 sp9)))))))
theorem sp_eq : F__law_spoilt = dFn 2 10 sp := f__law_spoilt
/-! ### states with one entry changed -/
theorem ofStr_ok (s : String) : PyData.strOk (Str.ofString s) = true := by
  rw [Str.ofString_eq_toList]
  unfold PyData.strOk
  rw [List.all_toArray, List.all_eq_true]
  intro n hn
  obtain ⟨c, _, e⟩ := List.mem_map.mp hn
  subst e
  refine decide_eq_true ?_
  have := c.valid
  unfold UInt32.isValidChar Nat.isValidChar at this
  unfold Char.toNat
  omega
theorem dt_non {m : Nat} : dt (m + 1) .non := .inl rfl
theorem dt_bl {m : Nat} {b : Bool} : dt (m + 1) (.bl b) := .inr (.inl ⟨b, rfl⟩)
theorem dt_str {m : Nat} {s : Str} (h : PyData.strOk s = true) : dt (m + 1) (.str s) := .inr (.inr (.inr (.inl ⟨s, rfl, h⟩)))
theorem dt_stri {m : Nat} {i : Int} : dt (m + 1) (.str (toString i)) := dt_str (ofStr_ok _)
theorem dt_ndn {m : Nat} {n : Nu} (h : sh n) : dt (m + 2) (Nd n) := dt_mono (by omega) (dt_nd h)
theorem dt_rds {m : Nat} {st : List Rp} (hl : st.length < 1000) (h : ∀ r ∈ st, sh r.2) : dt (m + 4) (.tup (st.map Rd)) := dt_tup (by rw [List.length_map]; exact hl) fun x hx => by
  obtain ⟨r, hr, e⟩ := List.mem_map.mp hx
  subst e
  exact dt_mono (by omega) (dt_rd (h r hr))
abbrev sS (u v h t : Int) (st : List Rp) (k : Nat) (q : Rp) (x8 x9 : Option D) : Sl := [some (.ml [.int u, .int v]), some (stT h t st), some (.int h), some (.int t), some (.tup (st.map Rd)), some (.int (k : Int)), some (.int q.1), some (Nd q.2), x8, x9]
theorem sp_4 {u v h t : Int} {st : List Rp} {k : Nat} {q : Rp} (hs : ∀ r ∈ st, sh r.2) (hk : k < st.length) : ∃ x y, dt 3 x ∧ dt 3 y ∧ sp4 [0] (sS u v h t st k q none none) = .nx (sS u v h t st k q (some (.tup [x, y])) none) := by
  by_cases c : 0 < k
  · have hj : k - 1 < st.length := by omega
    have e1 : atI (st.map Rd) ((k : Int) - 1) = some (Rd st[k - 1]) := by
      rw [show ((k : Int) - 1) = ((k - 1 : Nat) : Int) by omega]
      exact at_nat (by rw [List.getElem?_map, List.getElem?_eq_getElem hj]; rfl)
    have hsh := hs _ (List.getElem_mem hj)
    refine ⟨.int (st[k - 1]).1, Nd (st[k - 1]).2, dt_int _, dt_ndn hsh, ?_⟩
    unfold sp4
    simp [c, e1]
    rfl
  · refine ⟨.int 0, .tup [.int 0, .int 0], dt_int _, by (repeat' (first | exact dt_int _ | exact dt_non | exact dt_bl | exact dt_str (ofStr_ok _) | assumption | exact List.forall_mem_nil _ | (refine dt_tup (by simp) ?_) | (refine dt_lst (by simp) ?_) | (refine List.forall_mem_cons.mpr ⟨?_, ?_⟩))), ?_⟩
    unfold sp4
    simp [c]
theorem sp_58 {u v h t : Int} {st : List Rp} {k : Nat} {q : Rp} {x y : D} (hx : dt 3 x) (hy : dt 3 y) (hq : sh q.2) (hb : q.1.natAbs < 2 ^ 64) : ∃ es : List D, (∀ d ∈ es, dt 4 d) ∧ es.length = 27 ∧
    ((((sp5 [0] (sS u v h t st k q (some (.tup [x, y])) none)).seq (sp6 [0])).seq (sp7 [0])).seq (sp8 [0])) = .nx (sS u v h t st k q (some (.tup [x, y])) (some (.ml es))) := by
  have px := dt_pure hx
  have py := dt_pure hy
  have zx := frz_p px
  have zy := frz_p py
  have es := bl_str hb
  have hn : dt 3 (Nd q.2) := dt_ndn hq
  apply Exists.intro
  refine ⟨?a, ?b, ?c⟩
  rotate_left 2
  · unfold sp5 sp6 sp7 sp8
    simp [px, py, zx, zy, es, seqN]
    rfl
  · (repeat' (first | exact dt_int _ | exact dt_non | exact dt_bl | exact dt_str (ofStr_ok _) | assumption | exact List.forall_mem_nil _ | (refine dt_tup (by simp) ?_) | (refine dt_lst (by simp) ?_) | (refine List.forall_mem_cons.mpr ⟨?_, ?_⟩)))
  · rfl
end K06

set_option Elab.async false
set_option linter.all false
set_option maxRecDepth 100000
set_option maxHeartbeats 4000000
namespace K06
open PySem L2 Dn
noncomputable def pu1 : SV := (dSet 1 (dCall 2 F__law_box (foldA [(dVar 0), (dCst (.int 0))])))
noncomputable def pu2 : SV := (dSet 2 (d2 (binD .Add) (dCst (.int 1)) (dCall 2 F__law_take (foldA [(dVar 1), (dCst (.int 4))]))))
noncomputable def pu3 : SV := (dPar [3, 4] (foldA [(dCall 2 F__law_drawn_two (foldA [(dVar 1), (dVar 2)])), (dCall 2 F__law_drawn_two (foldA [(dCall 2 F__law_box (foldA [(dVar 0), (dCst (.int 1))])), (dVar 2)]))]))
noncomputable def pu4 : SV := (dIf (dROT (dOrT (dTB (d2 (cmpD' .Is) (dVar 3) (dCst .non))) (dTB (d2 (cmpD' .Is) (dVar 4) (dCst .non))))) (dRet (dCst (.bl false))) dPass)
noncomputable def pu5 : SV := (dUnp (.tp [5, 6, 7, 8]) (dVar 3))
noncomputable def pu6 : SV := (dPar [9, 10] (foldA [(dCall 3 F__law_state (foldA [(dVar 6), (dVar 7), (dVar 8)])), (dRO (dCall 3 F__law_state (foldA [(dFrz (d2 ixD (dVar 4) (dCst (.int 1)))), (dFrz (d2 ixD (dVar 4) (dCst (.int 2)))), (dFrz (d2 ixD (dVar 4) (dCst (.int 3))))])))]))
noncomputable def pu7 : SV := (dSet 11 (dIfE (dTB (d2 (cmpD' .Gt) (dCall 2 F__law_take (foldA [(dVar 1), (dCst (.int 3))])) (dCst (.int 0)))) (dCall 2 F__law_near (foldA [(dVar 1), (dVar 9)])) (dVar 10)))
noncomputable def pu8g : AV := (foldA [(dFrz (dVar 5)), (dFrz (dCall 1 F_row_of (foldA [(dVar 9)]))), (dFrz (dMeth false [(("Row", some "copied"), ⟨["self"], F_Row_copied, H_Row_copied⟩)] "copied" (dVar 5) [])), (dFrz (dCall 1 F_row_of (foldA [(dMeth false [(("Row", some "state"), ⟨["self"], F_Row_state, H_Row_state⟩)] "state" (dMeth false [(("Row", some "copied"), ⟨["self"], F_Row_copied, H_Row_copied⟩)] "copied" (dVar 5) []) [])])))])
noncomputable def pu8s : SV := (dSeq (dPar [13, 14] (foldA [(dRO (dMeth false [(("Row", some "copied"), ⟨["self"], F_Row_copied, H_Row_copied⟩)] "copied" (dVar 5) [])), (dCall 1 F_row_of (foldA [(dVar 9)]))])) dPass)
noncomputable def pu8k1 : SV := (dIf (dROT (dNotT (dTr (dCall 2 F__law_like (foldA [(dMeth false [(("Row", some "state"), ⟨["self"], F_Row_state, H_Row_state⟩)] "state" (d2 ixD (dVar 4) (dCst (.int 0))) []), (dVar 10)]))))) (dRet (dCst (.bl false))) dPass)
noncomputable def pu8k2 : SV := (dIf (dAndT (dTB (d2 (cmpD' .NotEq) (dVar 9) (dVar 11))) (dNotT (dTr (dCall 4 F__law_apart (foldA [(dCall 1 F_row_of (foldA [(dVar 9)])), (dCall 1 F_row_of (foldA [(dVar 11)])), (dVar 9), (dVar 11)]))))) (dRet (dCst (.bl false))) dPass)
noncomputable def pu8k3 : SV := (dIf (dTB (d2 (cmpD' .Eq) (dVar 9) (dVar 11))) (dDrop (dAppend 12 (dFrz (dCall 1 F_row_of (foldA [(dVar 11)]))))) dPass)
noncomputable def pu8k4 : SV := (dSet 1 (dCall 2 F__law_box (foldA [(dVar 0), (dCst (.int 2))])))
noncomputable def pu8k5b1 : SV := (dSet 16 (dLst (foldA [(dFrz (dVar 7)), (dFrz (dVar 8)), (dFrz (d2 (binD .Add) (dVar 7) (dCall 2 F__law_take (foldA [(dVar 1), (dFrz (d2 (binD .Add) (d2 (binD .Sub) (dVar 8) (dVar 7)) (dCst (.int 1))))])))), (dFrz (d2 (binD .Add) (dVar 8) (dCst (.int 1)))), (dFrz (d2 (binD .Sub) (dVar 7) (dCst (.int 1))))])))
noncomputable def pu8k5b2 : SV := (dIf (dTB (d2 (cmpD' .NotEq) (dVar 6) (dLst (foldA [])))) (dDrop (dAppend 16 (dFrz (d2 (binD .Add) (d2 ixD (dCall 2 F__law_pick (foldA [(dVar 1), (dVar 6)])) (dCst (.int 0))) (dCst (.int 1)))))) dPass)
noncomputable def pu8k5b3 : SV := (dSet 17 (dCall 4 F__law_whole (foldA [(dVar 6), (dVar 7), (dVar 8), (dVar 16)])))
noncomputable def pu8k5b4 : SV := (dIf (dROT (dAndT (dTB (d2 (cmpD' .NotEq) (d2 (binD .Mod) (dVar 15) (dCst (.int 3))) (dCst (.int 1)))) (dTB (d2 (cmpD' .NotEq) (dLc (dSeqIt (dFrz (dVar 12))) (.nm 20) (dNotT (dTr (dCall 2 F__law_like (foldA [(dCall 2 F__law_answers (foldA [(dVar 20), (dVar 16)])), (dVar 17)])))) (dFrz (dCst (.int 1))) [20]) (dLst (foldA [])))))) (dRet (dCst (.bl false))) dPass)
noncomputable def pu8k5b5 : SV := (dSet 18 (dCall 4 F__law_deed (foldA [(dVar 1), (dVar 7), (dVar 8), (dVar 2)])))
noncomputable def pu8k5b6 : SV := (dSet 19 (dCall 3 F__law_due (foldA [(dVar 18), (dVar 7), (dVar 8)])))
noncomputable def pu8k5b7 : SV := (dIf (dTB (d2 (cmpD' .NotEq) (dLcM 12 20 (dTB (d2 (cmpD' .NotEq) (dCall 2 F__law_take_in (foldA [(dVar 20), (dVar 18)])) (dVar 19))) (dFrz (dCst (.int 1))) [20]) (dLst (foldA [])))) (dRet (dCst (.bl false))) dPass)
noncomputable def pu8k5b8 : SV := (dIf (dAndT (dTr (dVar 19)) (dTB (d2 (cmpD' .Eq) (d2 ixD (dVar 18) (dCst (.int 0))) (dCst (.str "told"))))) (dSeq (dSet 8 (d2 ixD (dVar 18) (dCst (.int 1)))) (dDrop (dAppend 6 (dFrz (dTup (foldA [(dFrz (dVar 8)), (dFrz (d2 ixD (dVar 18) (dCst (.int 2))))])))))) (dIf (dTr (dVar 19)) (dSet 7 (d2 ixD (dVar 18) (dCst (.int 1)))) dPass))
noncomputable def pu8k5b : SV := dSeq pu8k5b1 (dSeq pu8k5b2 (dSeq pu8k5b3 (dSeq pu8k5b4 (dSeq pu8k5b5 (dSeq pu8k5b6 (dSeq pu8k5b7 pu8k5b8))))))
noncomputable def pu8k5 : SV := (dFor (dRng (foldA [(dCall 2 F__law_pick (foldA [(dVar 1), (dFrz (dLst (foldA [(dFrz (dCst (.int 4))), (dFrz (dCst (.int 8))), (dFrz (dCst (.int 16)))])))]))])) (.nm 15) pu8k5b)
noncomputable def pu8k6 : SV := (dRet (dRO (dAndE (dCall 2 F__law_like (foldA [(dMeth false [(("Row", some "state"), ⟨["self"], F_Row_state, H_Row_state⟩)] "state" (dVar 13) []), (dVar 9)])) (dAndE (dCall 2 F__law_like (foldA [(dMeth false [(("Row", some "state"), ⟨["self"], F_Row_state, H_Row_state⟩)] "state" (dVar 14) []), (dVar 9)])) (dCall 2 F__law_like (foldA [(dMeth false [(("Row", some "state"), ⟨["self"], F_Row_state, H_Row_state⟩)] "state" (d2 ixD (dVar 12) (dCst (.int 0))) []), (dCall 3 F__law_state (foldA [(dVar 6), (dVar 7), (dVar 8)]))]))))))
noncomputable def pu8k7 : SV := dPass
noncomputable def pu8k : SV := dSeq pu8k1 (dSeq pu8k2 (dSeq pu8k3 (dSeq pu8k4 (dSeq pu8k5 (dSeq pu8k6 pu8k7)))))
noncomputable def pu8 : SV := dAlL 12 pu8g pu8s pu8k
noncomputable def pu : SV := dSeq pu1 (dSeq pu2 (dSeq pu3 (dSeq pu4 (dSeq pu5 (dSeq pu6 (dSeq pu7 pu8))))))
theorem pu_eq : F__law_part_two = dFn 1 21 pu := f__law_part_two
/-! ### part two -/
theorem vi_mlg {ds : List D} : D.view (.ml ds) = .kl (viewL ds) := by rw [D.view]
theorem viewL_rep (n : Nat) (d : D) : viewL (List.replicate n d) = List.replicate n d.view := by
  induction n with
  | zero => simp
  | succ n ih => rw [List.replicate_succ, List.replicate_succ, vl_cons, ih]
@[simp] theorem row_clo (h t : Int) (st : List Rp) : (row h t st).clo = true := by
  unfold row
  simp [rds_clo]
@[simp] theorem row_frz (h t : Int) (st : List Rp) : frz (.val (row h t st)) = .val (row h t st) := rfl
@[simp] theorem row_nn (h t : Int) (st : List Rp) : isNonD (row h t st) = false := rfl
@[simp] theorem rowV_nn (h t : Int) (st : List Rp) : isNonD (rowV h t st) = false := rfl
@[simp] theorem is8 : isIns "Row" "copied" (some (row h t st)) = true := is_row (by decide +kernel)
@[simp] theorem is9 : isIns "Row" "copied" (some (rowV h t st)) = true := is_rowV (by decide +kernel)
@[simp] theorem is10 : isIns "Row" "state" (some (row h t st)) = true := is_row (by decide +kernel)
theorem copied_row (h t : Int) (st : List Rp) : F_Row_copied [row h t st] = .ok (row h t st) [row h t st] := by
  rw [f_Row_copied]
  have := made_spec h t st (.kl (st.map Rd)) rfl (list_kl st)
  simp [this]
theorem state_row (h t : Int) (st : List Rp) : F_Row_state [row h t st] = .ok (stT h t st) [row h t st] := by
  rw [f_Row_state]
  simp [rds_pure, rds_clo]
theorem ps_nd {m : Nat} {n : Nu} (h : sh n) : ps (m + 2) (Nd n) := by
  cases n with
  | none => exact .inl rfl
  | some l => exact .inr (.inr ⟨_, rfl, by rw [List.length_map]; exact h l rfl, fun x hx => by
      obtain ⟨i, _, e⟩ := List.mem_map.mp hx
      exact .inr (.inl ⟨i, e.symm⟩)⟩)
theorem ps_state {h t : Int} {st : List Rp} (hl : st.length < 1000) (hs : ∀ r ∈ st, sh r.2) : ps 6 (stT h t st) := by
  refine .inr (.inr ⟨_, rfl, by simp, fun x hx => ?_⟩)
  rcases List.mem_cons.mp hx with e | hx
  · exact .inr (.inl ⟨_, e⟩)
  rcases List.mem_cons.mp hx with e | hx
  · exact .inr (.inl ⟨_, e⟩)
  have e : x = .tup (st.map Rd) := by simpa using hx
  refine .inr (.inr ⟨_, e, by rw [List.length_map]; exact hl, fun y hy => ?_⟩)
  obtain ⟨r, hr, e⟩ := List.mem_map.mp hy
  subst e
  refine .inr (.inr ⟨_, rfl, by simp, fun z hz => ?_⟩)
  rcases List.mem_cons.mp hz with e | hz
  · exact .inr (.inl ⟨_, e⟩)
  have e : z = Nd r.2 := by simpa using hz
  rw [e]; exact ps_nd (m := 1) (hs r hr)
theorem rd_inj {a b : Rp} (h : Rd a = Rd b) : a = b := by
  unfold Rd at h
  injection h with h
  injection h with h1 h2
  injection h1 with h1
  injection h2 with h2 _
  exact Prod.ext h1 (nd_inj h2)
theorem rds_inj : ∀ {a b : List Rp}, a.map Rd = b.map Rd → a = b
  | [], [], _ => rfl
  | [], _ :: _, h => by cases h
  | _ :: _, [], h => by cases h
  | x :: a, y :: b, h => by
    injection h with h1 h2
    rw [rd_inj h1, rds_inj h2]
theorem stT_iff {h1 t1 h2 t2 : Int} {a b : List Rp} : ([D.int h1, .int t1, .tup (a.map Rd)] = [D.int h2, .int t2, .tup (b.map Rd)]) ↔ (h1 = h2 ∧ t1 = t2 ∧ a = b) := by
  constructor
  · intro e
    injection e with e1 e
    injection e with e2 e
    injection e with e3 _
    injection e1 with e1
    injection e2 with e2
    injection e3 with e3
    exact ⟨e1, e2, rds_inj e3⟩
  · rintro ⟨rfl, rfl, rfl⟩; rfl
open Classical in
theorem st_eq {h1 t1 h2 t2 : Int} {a b : List Rp} (va : Vs h1 t1 a) (vb : Vs h2 t2 b) (la : a.length < 900) (lb : b.length < 900) :
    cmpD' .Eq (stT h1 t1 a) (stT h2 t2 b) = some (.bl (decide (h1 = h2 ∧ t1 = t2 ∧ a = b))) ∧ cmpD' .NotEq (stT h1 t1 a) (stT h2 t2 b) = some (.bl (!decide (h1 = h2 ∧ t1 = t2 ∧ a = b))) := by
  have e := eq_ps (ps_state (h := h1) (t := t1) (by omega) fun q hq => nv_sh (va.nm q hq)) (ps_state (h := h2) (t := t2) (by omega) fun q hq => nv_sh (vb.nm q hq)) (by decide)
  have i : decide ([D.int h1, .int t1, .tup (a.map Rd)] = [D.int h2, .int t2, .tup (b.map Rd)]) = decide (h1 = h2 ∧ t1 = t2 ∧ a = b) := decide_eq_decide.mpr stT_iff
  rw [i] at e
  constructor
  · show Option.map D.bl (eqD (stT h1 t1 a) (stT h2 t2 b)) = _
    rw [e]; rfl
  · show Option.map D.bl (Option.map (fun x => !x) (eqD (stT h1 t1 a) (stT h2 t2 b))) = _
    rw [e]; rfl
abbrev sP (sc : List Int) (u v few : Int) (x4 x5 : Option D) (rs : List Rp) (h t : Int) (x9 x10 x11 x12 x13 x14 x15 x16 x17 x18 x19 x20 : Option D) : Sl :=
  [some (.lst (sc.map .int)), some (.ml [.int u, .int v]), some (.int few), none, x4, x5, some (.ml (rs.map Rd)), some (.int h), some (.int t), x9, x10, x11, x12, x13, x14, x15, x16, x17, x18, x19, x20]
theorem pu_17 (sc : List Int) : ∃ u v few h t rs h' t' rs' h2 t2 st2, 0 < few ∧ few < 1000 ∧ Rw h t rs ∧ rs.length ≤ 21 ∧ Rw h' t' rs' ∧ rs'.length ≤ 21 ∧ Vs h2 t2 st2 ∧ st2.length ≤ 21 ∧
    (((((((pu1 [] (some (.lst (sc.map .int)) :: List.replicate 20 none)).seq (pu2 [])).seq (pu3 [])).seq (pu4 [])).seq (pu5 [])).seq (pu6 [])).seq (pu7 [])) =
      .nx (sP sc u v few (some (.mt [row h' t' (falls h' rs'), .ml (rs'.map Rd), .int h', .int t'])) (some (row h t (falls h rs))) rs h t (some (stT h t (falls h rs))) (some (stT h' t' (falls h' rs'))) (some (stT h2 t2 st2)) none none none none none none none none none) := by
  obtain ⟨a1, b1, e1⟩ := box_spec sc 0 (by decide)
  obtain ⟨a2, b2, r2, p2, q2, e2⟩ := take_spec a1 b1 4 (by decide) (by decide)
  obtain ⟨a3, b3, h, t, rs, w, l, e3⟩ := drawn_two_spec a2 b2 (1 + r2) (by omega) (by omega)
  obtain ⟨a4, b4, e4⟩ := box_spec sc 1 (by decide)
  obtain ⟨a5, b5, h', t', rs', w', l', e5⟩ := drawn_two_spec a4 b4 (1 + r2) (by omega) (by omega)
  obtain ⟨a6, b6, r6, p6, q6, e6⟩ := take_spec a3 b3 3 (by decide) (by decide)
  have s1 := state_law h t rs (by omega)
  have s2 := state_kl h' t' rs' (by omega)
  have fl := falls_len (k := h) rs
  have fl' := falls_len (k := h') rs'
  have p1 := rds_clo (falls h' rs')
  have s7 : (((((((pu1 [] (some (.lst (sc.map .int)) :: List.replicate 20 none)).seq (pu2 [])).seq (pu3 [])).seq (pu4 [])).seq (pu5 [])).seq (pu6 []))) =
      .nx (sP sc a3 b3 (1 + r2) (some (.mt [row h' t' (falls h' rs'), .ml (rs'.map Rd), .int h', .int t'])) (some (row h t (falls h rs))) rs h t (some (stT h t (falls h rs))) (some (stT h' t' (falls h' rs'))) none none none none none none none none none none) := by
    have q1 : pu1 [] (some (.lst (sc.map .int)) :: List.replicate 20 none) = .nx (some (.lst (sc.map .int)) :: some (.ml [.int a1, .int b1]) :: List.replicate 19 none) := by
      unfold pu1; simp [e1]
    have q2 : pu2 [] (some (.lst (sc.map .int)) :: some (.ml [.int a1, .int b1]) :: List.replicate 19 none) = .nx (some (.lst (sc.map .int)) :: some (.ml [.int a2, .int b2]) :: some (.int (1 + r2)) :: List.replicate 18 none) := by
      unfold pu2; simp [e2]
    have q3 : pu3 [] (some (.lst (sc.map .int)) :: some (.ml [.int a2, .int b2]) :: some (.int (1 + r2)) :: List.replicate 18 none) = .nx (some (.lst (sc.map .int)) :: some (.ml [.int a3, .int b3]) :: some (.int (1 + r2)) :: some (.mt [row h t (falls h rs), .ml (rs.map Rd), .int h, .int t]) :: some (.mt [row h' t' (falls h' rs'), .ml (rs'.map Rd), .int h', .int t']) :: List.replicate 16 none) := by
      unfold pu3; simp [e3, e4, e5]
    rw [q1, seqN, q2, seqN, q3, seqN]
    have q4 : pu4 [] (some (.lst (sc.map .int)) :: some (.ml [.int a3, .int b3]) :: some (.int (1 + r2)) :: some (.mt [row h t (falls h rs), .ml (rs.map Rd), .int h, .int t]) :: some (.mt [row h' t' (falls h' rs'), .ml (rs'.map Rd), .int h', .int t']) :: List.replicate 16 none) = .nx (some (.lst (sc.map .int)) :: some (.ml [.int a3, .int b3]) :: some (.int (1 + r2)) :: some (.mt [row h t (falls h rs), .ml (rs.map Rd), .int h, .int t]) :: some (.mt [row h' t' (falls h' rs'), .ml (rs'.map Rd), .int h', .int t']) :: List.replicate 16 none) := by
      unfold pu4; simp [rds_pure]
    rw [q4, seqN]
    unfold pu5 pu6
    simp [rds_pure, s1, s2, p1, seqN]
  by_cases c : 0 < r6
  · obtain ⟨u, v, h2, t2, st2, v2, l2, en⟩ := near_spec (u := a6) (v := b6) w.vs (by omega)
    refine ⟨u, v, 1 + r2, h, t, rs, h', t', rs', h2, t2, st2, by omega, by omega, w, l, w', l', v2, l2, ?_⟩
    rw [s7, seqN]
    unfold pu7
    simp [e6, c, en]
  · refine ⟨a6, b6, 1 + r2, h, t, rs, h', t', rs', h', t', falls h' rs', by omega, by omega, w, l, w', l', w'.vs, by omega, ?_⟩
    rw [s7, seqN]
    unfold pu7
    simp [e6, c]
end K06

set_option Elab.async false
set_option linter.all false
set_option maxRecDepth 100000
set_option maxHeartbeats 4000000
namespace K06
open PySem L2 Dn
theorem tok {α : Type} (a : α) (ss : Sl) (k : α → Sl → RS) : (Dn.R.ok a ss).toS k = k a ss := rfl
section
variable {sc : List Int} {u v few h t : Int} {rs : List Rp} {x4 x9 x10 x11 x12 x13 x14 x15 x16 x17 x18 x19 x20 : Option D}
theorem pu_8g {st : List Rp} (w : Vs h t st) (hl : st.length ≤ 21) : pu8g (sP sc u v few x4 (some (row h t st)) rs h t (some (stT h t st)) x10 x11 none none none none none none none none none) =
    .ok [.plc 5, .val (row h t st), .val (row h t st), .val (row h t st)] (sP sc u v few x4 (some (row h t st)) rs h t (some (stT h t st)) x10 x11 none none none none none none none none none) := by
  have e1 := rowof_ok w (by omega)
  unfold pu8g
  simp [e1, copied_row, state_row]
theorem pu_8 {st : List Rp} (w : Vs h t st) (hl : st.length ≤ 21) : pu8 [] (sP sc u v few x4 (some (row h t st)) rs h t (some (stT h t st)) x10 x11 none none none none none none none none none) =
    pu8k [] (sP sc u v few x4 none rs h t (some (stT h t st)) x10 x11 (some (.ml (List.replicate 4 (row h t st)))) (some (row h t st)) (some (row h t st)) none none none none none none) := by
  have e1 := rowof_ok w (by omega)
  have e2 := pu_8g (sc := sc) (u := u) (v := v) (few := few) (rs := rs) (x4 := x4) (x10 := x10) (x11 := x11) w hl
  unfold pu8 dAlL
  rw [e2, tok]
  have p0 : plcAt 0 [Vx.plc 5, .val (row h t st), .val (row h t st), .val (row h t st)] = some (0, 5) := rfl
  rw [p0]
  unfold alX
  dsimp only
  simp only [tk_plc, gz_succ, gz_zero, tkO_some, tk_val, tk_nil, tkC_some]
  unfold alT
  dsimp only
  rw [gz_zero]
  unfold alD
  dsimp only
  rw [if_neg (by simp [sizeLine_eq])]
  refine allA_eq fun a => ?_
  have e3 : ∀ a, pu8s [5] (sP sc u v few x4 (some (row h t st)) rs h t (some (stT h t st)) x10 x11 (some (.ml [.rf a, row h t st, row h t st, row h t st])) none none none none none none none none) =
      .nx (sP sc u v few x4 (some (row h t st)) rs h t (some (stT h t st)) x10 x11 (some (.ml [.rf a, row h t st, row h t st, row h t st])) (some (row h t st)) (some (row h t st)) none none none none none none) := by
    intro a
    unfold pu8s
    simp [e1, copied_spec]
  have e4 := e3 a
  show alEnd 12 5 0 a (pu8k []) (pu8s [5] (sP sc u v few x4 (some (row h t st)) rs h t (some (stT h t st)) x10 x11 (some (.ml [.rf a, row h t st, row h t st, row h t st])) none none none none none none none none)) = _
  rw [e4]
  show onO (backX 12 5 0 a _ (some (some (.ml [.rf a, row h t st, row h t st, row h t st]))) (some (some (row h t st)))) (pu8k []) = _
  unfold backX isRf
  simp
  rfl
theorem pu_k1 {n : Nat} {R X Y : D} {h' t' : Int} {st' rs' : List Rp} (w : Vs h' t' st') (hl : st'.length ≤ 21) (lr : rs'.length ≤ 21) :
    pu8k1 [] (sP sc u v few (some (.mt [row h' t' st', .ml (rs'.map Rd), .int h', .int t'])) none rs h t x9 (some (stT h' t' st')) x11 x12 x13 x14 none none none none none none) =
      .nx (sP sc u v few (some (.mt [row h' t' st', .ml (rs'.map Rd), .int h', .int t'])) none rs h t x9 (some (stT h' t' st')) x11 x12 x13 x14 none none none none none none) := by
  have e1 := state_spec h' t' st' (by omega)
  have e2 := like_spec (pl_state (h := h') (t := t') (show st'.length < 1000 by omega) fun q hq => nv_sh (w.nm q hq))
  unfold pu8k1
  simp [rds_pure, e1, e2]
open Classical in
theorem pu_k2 {h2 t2 : Int} {st st2 : List Rp} (w : Vs h t st) (hl : st.length ≤ 21) (w2 : Vs h2 t2 st2) (hl2 : st2.length ≤ 21) :
    pu8k2 [] (sP sc u v few x4 none rs h t (some (stT h t st)) x10 (some (stT h2 t2 st2)) x12 x13 x14 none none none none none none) =
      .nx (sP sc u v few x4 none rs h t (some (stT h t st)) x10 (some (stT h2 t2 st2)) x12 x13 x14 none none none none none none) := by
  obtain ⟨_, e1⟩ := st_eq w w2 (by omega) (by omega)
  unfold pu8k2
  by_cases c : h = h2 ∧ t = t2 ∧ st = st2
  · rw [decide_eq_true c] at e1
    simp [e1]
  · rw [decide_eq_false c] at e1
    obtain ⟨X, Y, ea⟩ := apart_spec w w2 hl hl2 c
    have r1 := rowof_ok w (by omega)
    have r2 := rowof_ok w2 (by omega)
    simp [e1, r1, r2, ea]
open Classical in
theorem pu_k3 {h2 t2 : Int} {st st2 : List Rp} (w : Vs h t st) (hl : st.length ≤ 21) (w2 : Vs h2 t2 st2) (hl2 : st2.length ≤ 21) : ∃ n, 0 < n ∧ n ≤ 5 ∧
    pu8k3 [] (sP sc u v few x4 none rs h t (some (stT h t st)) x10 (some (stT h2 t2 st2)) (some (.ml (List.replicate 4 (row h t st)))) x13 x14 none none none none none none) =
      .nx (sP sc u v few x4 none rs h t (some (stT h t st)) x10 (some (stT h2 t2 st2)) (some (.ml (List.replicate n (row h t st)))) x13 x14 none none none none none none) := by
  obtain ⟨e1, _⟩ := st_eq w w2 (by omega) (by omega)
  unfold pu8k3
  by_cases c : h = h2 ∧ t = t2 ∧ st = st2
  · rw [decide_eq_true c] at e1
    obtain ⟨rfl, rfl, rfl⟩ := c
    have r1 := rowof_ok w (by omega)
    refine ⟨5, by decide, by decide, ?_⟩
    simp [e1, r1, sizeLine_eq]
  · rw [decide_eq_false c] at e1
    refine ⟨4, by decide, by decide, ?_⟩
    simp [e1]
theorem pu_b12 {n : Nat} {R : D} {h t : Int} {rs : List Rp} (w : Rw h t rs) (hl : rs.length < 60) : ∃ (u' v' : Int) (ks : List Int), ks.length ≤ 6 ∧
    (pu8k5b1 [] (sP sc u v few x4 none rs h t x9 x10 x11 x12 x13 x14 x15 x16 x17 x18 x19 x20)).seq (pu8k5b2 []) = .nx (sP sc u' v' few x4 none rs h t x9 x10 x11 x12 x13 x14 x15 (some (.ml (ks.map .int))) x17 x18 x19 x20) := by
  have := w.h0
  have := w.ht
  have := w.hb
  obtain ⟨a1, b1, r1, p1, q1, e1⟩ := take_spec u v (t - h + 1) (by omega) (by omega)
  have s1 : pu8k5b1 [] (sP sc u v few x4 none rs h t x9 x10 x11 x12 x13 x14 x15 x16 x17 x18 x19 x20) = .nx (sP sc a1 b1 few x4 none rs h t x9 x10 x11 x12 x13 x14 x15 (some (.ml [.int h, .int t, .int (h + r1), .int (t + 1), .int (h - 1)])) x17 x18 x19 x20) := by
    unfold pu8k5b1
    simp [e1]
  have n1 := ne_mnil (rds_dt w.sh) (by decide) (show (rs.map Rd).length < 1000 by rw [List.length_map]; omega)
  rw [s1, seqN]
  by_cases c : rs = []
  · subst c
    refine ⟨a1, b1, [h, t, h + r1, t + 1, h - 1], by simp, ?_⟩
    unfold pu8k5b2
    simp only [List.map_nil] at n1
    simp [n1]
  · have hne : (rs.map Rd).isEmpty = false := by cases rs with
      | nil => exact absurd rfl c
      | cons a b => rfl
    rw [hne] at n1
    obtain ⟨a2, b2, d, hd, e2⟩ := pickM_spec a1 b1 (rs.map Rd) (by rw [List.length_map]; exact List.length_pos_iff.mpr c) (by rw [List.length_map]; omega) (rds_pure rs)
    obtain ⟨q, hq, eq⟩ := List.mem_map.mp hd
    subst eq
    refine ⟨a2, b2, [h, t, h + r1, t + 1, h - 1, q.1 + 1], by simp, ?_⟩
    unfold pu8k5b2
    simp [n1, e2, -Dn.ix_tup, ix_rd0]
theorem pu_b3 {ks : List Int} {h t : Int} {rs : List Rp} (w : Rw h t rs) (hl : rs.length < 60) (hk : ks.length ≤ 6) :
    pu8k5b3 [] (sP sc u v few x4 none rs h t x9 x10 x11 x12 x13 x14 x15 (some (.ml (ks.map .int))) x17 x18 x19 x20) = .nx (sP sc u v few x4 none rs h t x9 x10 x11 x12 x13 x14 x15 (some (.ml (ks.map .int))) (some (.ml (ansL h t (falls h rs) ks))) x18 x19 x20) := by
  have e := whole_spec w hl ks (by omega)
  unfold pu8k5b3
  simp [e]
end
end K06

set_option Elab.async false
set_option linter.all false
set_option maxRecDepth 100000
set_option maxHeartbeats 4000000
namespace K06
open PySem L2 Dn
section
variable {sc : List Int} {u v few h t : Int} {rs : List Rp} {x4 x9 x10 x11 x12 x13 x14 x15 x16 x17 x18 x19 x20 : Option D}
theorem rep_pure {n : Nat} {d : D} (h : d.pure = true) : allPure (List.replicate n d) = true := List.all_eq_true.mpr fun x hx => by
  rw [List.eq_of_mem_replicate hx]; exact h
theorem set20 {sl : Sl} {i : Nat} (g : sl[i]? = some none) : sl.set i none = sl := by
  apply List.ext_getElem?
  intro j
  by_cases z : j = i
  · subst z
    rw [g, List.getElem?_set_self (List.getElem?_eq_some_iff.mp g).1]
  · rw [List.getElem?_set_ne (Ne.symm z)]
/-- the comprehension over the rows: each answers as is due -/
theorem pu_bc {n : Nat} {ks : List Int} {sl : Sl} {st : List Rp} (w : Vs h t st) (hl : st.length < 60) (hk : ks.length ≤ 6)
    (g12 : sl[12]? = some (some (.kl (List.replicate n (rowV h t st))))) (g16 : sl[16]? = some (some (.kl (ks.map .int)))) (g17 : sl[17]? = some (some (.kl (ansL h t st ks)))) (g20 : sl[20]? = some none) :
    dLc (dSeqIt (dFrz (dVar 12))) (.nm 20) (dNotT (dTr (dCall 2 F__law_like (foldA [(dCall 2 F__law_answers (foldA [(dVar 20), (dVar 16)])), (dVar 17)])))) (dFrz (dCst (.int 1))) [20] sl = .ok (.val (.ml [])) sl := by
  have e1 : dSeqIt (dFrz (dVar 12)) sl = .ok ⟨List.replicate n (rowV h t st), none⟩ sl := by
    simp [g12]
  have hlen : 20 < sl.length := (List.getElem?_eq_some_iff.mp g20).1
  have e20 := set20 g20
  rw [ev_lc, e1, bok, if_pos (by simp [g20])]
  generalize hf : lcGo _ _ _ _ _ _ _ _ = r
  have ap := ans_pl w (show st.length < 900 by omega) ks
  have an := answers_spec w (by omega) ks (by omega)
  have al : (ansL h t st ks).length < 1000 := by unfold ansL; simp; omega
  have ll := like_list (ansL h t st ks) al ap
  obtain ⟨acc, s, rfl, rfl, y, py, rfl⟩ := lc_of hf (fun j acc s => acc = [] ∧ ∃ y : Option D, (∀ d, y = some d → d.pure = true) ∧ s = sl.set 20 y)
    ⟨rfl, none, fun d z => (by cases z), e20.symm⟩ (fun j acc s ⟨_, y, py, e⟩ => by
      subst e
      refine ⟨?_, src_none⟩
      cases y with
      | none => simp [hlen]
      | some d => simp [hlen, py d rfl]) (fun j acc s d ⟨ea, y, py, e⟩ hd => by
      subst e
      have hd : d = rowV h t st := List.eq_of_mem_replicate (List.mem_of_getElem? hd)
      subst hd
      refine ⟨sl.set 20 (some (rowV h t st)), false, sl.set 20 (some (rowV h t st)), ?_, ?_, fun z => (by cases z), fun _ => ⟨ea, some (rowV h t st), fun d z => (by cases z; rfl), rfl⟩⟩
      · rw [tg_nm, set1_ap, if_neg]
        · simp [List.set_set]
        · rw [mem_out]
          simp
          exact hlen
      · have g16' : (sl.set 20 (some (rowV h t st)))[16]? = some (some (.kl (ks.map .int))) := by rw [List.getElem?_set_ne (by decide)]; exact g16
        have g17' : (sl.set 20 (some (rowV h t st)))[17]? = some (some (.kl (ansL h t st ks))) := by rw [List.getElem?_set_ne (by decide)]; exact g17
        have g20' : (sl.set 20 (some (rowV h t st)))[20]? = some (some (rowV h t st)) := List.getElem?_set_self hlen
        simp [g16', g17', g20', an, ll])
  simp [g20, List.set_set, e20]
/-- the comprehension whose rows take a deed -/
theorem pu_bm {n : Nat} {d : De} {st : List Rp} (hc : chain st) (hl : st.length < 900) :
    dLcM 12 20 (dTB (d2 (cmpD' .NotEq) (dCall 2 F__law_take_in (foldA [(dVar 20), (dVar 18)])) (dVar 19))) (dFrz (dCst (.int 1))) [20] (sP sc u v few x4 none rs h t x9 x10 x11 (some (.ml (List.replicate n (row h t st)))) x13 x14 x15 x16 x17 (some (DeD d)) (some (.bl (dueB d h t))) none) =
      .ok (.val (.ml [])) (sP sc u v few x4 none rs h t x9 x10 x11 (some (.ml (List.replicate n (aft d h t st)))) x13 x14 x15 x16 x17 (some (DeD d)) (some (.bl (dueB d h t))) none) := by
  have e1 := takein_spec d h t st hc hl
  have go : ∀ (n k : Nat), lcmGo 12 20 (dTB (d2 (cmpD' .NotEq) (dCall 2 F__law_take_in (foldA [(dVar 20), (dVar 18)])) (dVar 19))) (dFrz (dCst (.int 1))) [20] n k []
      (sP sc u v few x4 none rs h t x9 x10 x11 (some (.ml (List.replicate k (aft d h t st) ++ List.replicate n (row h t st)))) x13 x14 x15 x16 x17 (some (DeD d)) (some (.bl (dueB d h t))) none) =
      .ok [] (sP sc u v few x4 none rs h t x9 x10 x11 (some (.ml (List.replicate (k + n) (aft d h t st)))) x13 x14 x15 x16 x17 (some (DeD d)) (some (.bl (dueB d h t))) none) := by
    intro n
    induction n with
    | zero =>
      intro k
      unfold lcmGo
      simp [lcmE]
    | succ n ih =>
      intro k
      have g1 : (List.replicate k (aft d h t st) ++ List.replicate (n + 1) (row h t st))[k]? = some (row h t st) := by
        rw [List.getElem?_append_right (by simp), List.length_replicate, Nat.sub_self, List.replicate_succ]; rfl
      have g2 : (List.replicate k (aft d h t st) ++ List.replicate (n + 1) (row h t st)).set k (aft d h t st) = List.replicate (k + 1) (aft d h t st) ++ List.replicate n (row h t st) := by
        rw [List.set_append_right _ _ (by simp), List.length_replicate, Nat.sub_self, List.replicate_succ, List.set_cons_zero, List.replicate_succ', List.append_assoc]; rfl
      have ih := ih (k + 1)
      rw [show k + 1 + n = k + (n + 1) by omega] at ih
      unfold lcmGo
      rw [if_pos (by simp)]
      have q1 : lcmX k (wipeS (sP sc u v few x4 none rs h t x9 x10 x11 (some (.ml (List.replicate k (aft d h t st) ++ List.replicate (n + 1) (row h t st)))) x13 x14 x15 x16 x17 (some (DeD d)) (some (.bl (dueB d h t))) none) [20])[12]? = some (List.replicate k (aft d h t st) ++ List.replicate (n + 1) (row h t st), row h t st) := by
        show lcmX k (some (some (.ml (List.replicate k (aft d h t st) ++ List.replicate (n + 1) (row h t st))))) = _
        unfold lcmX
        dsimp only
        rw [g1]
      rw [q1]
      dsimp only
      have q2 : dTB (d2 (cmpD' .NotEq) (dCall 2 F__law_take_in (foldA [(dVar 20), (dVar 18)])) (dVar 19)) (((wipeS (sP sc u v few x4 none rs h t x9 x10 x11 (some (.ml (List.replicate k (aft d h t st) ++ List.replicate (n + 1) (row h t st)))) x13 x14 x15 x16 x17 (some (DeD d)) (some (.bl (dueB d h t))) none) [20]).set 12 none).set 20 (some (row h t st))) =
          .ok false (sP sc u v few x4 none rs h t x9 x10 x11 none x13 x14 x15 x16 x17 (some (DeD d)) (some (.bl (dueB d h t))) (some (aft d h t st))) := by
        simp [e1]
      rw [q2]
      dsimp only
      rw [if_neg (by simp)]
      have q3 : joinS 12 20 k (List.replicate k (aft d h t st) ++ List.replicate (n + 1) (row h t st)) (sP sc u v few x4 none rs h t x9 x10 x11 none x13 x14 x15 x16 x17 (some (DeD d)) (some (.bl (dueB d h t))) (some (aft d h t st))) =
          some (sP sc u v few x4 none rs h t x9 x10 x11 (some (.ml (List.replicate (k + 1) (aft d h t st) ++ List.replicate n (row h t st)))) x13 x14 x15 x16 x17 (some (DeD d)) (some (.bl (dueB d h t))) none) := by
        rw [← g2]; rfl
      rw [q3]
      exact ih
  have g := go n 0
  rw [Nat.zero_add, List.replicate_zero, List.nil_append] at g
  unfold dLcM
  show lcmN 12 20 _ _ [20] _ (lenMl (some (some (.ml (List.replicate n (row h t st)))))) = _
  unfold lenMl lcmN
  dsimp only
  rw [List.length_replicate, if_pos (by simp), g, bok]
  simp
end
end K06

set_option Elab.async false
set_option linter.all false
set_option maxRecDepth 100000
set_option maxHeartbeats 4000000
namespace K06
open PySem L2 Dn
section
variable {sc : List Int} {u v few h t : Int} {rs : List Rp} {x4 x9 x10 x11 x12 x13 x14 x15 x16 x17 x18 x19 x20 : Option D}
theorem nil_ne : cmpD' .NotEq (.ml []) (.ml []) = some (.bl false) := ne_mnil (m := 1) (ds := []) (fun x z => (nomatch z)) (by decide) (by decide)
theorem rowV_view' {n : Nat} {h t : Int} {st : List Rp} : D.view (.ml (List.replicate n (row h t st))) = .kl (List.replicate n (rowV h t st)) := by rw [vi_mlg, viewL_rep, row_view]
theorem pu_b4 {n : Nat} {ks : List Int} {st : List Rp} {k : Int} (w : Vs h t st) (hl : st.length < 60) (hk : ks.length ≤ 6) :
    pu8k5b4 [] (sP sc u v few x4 none rs h t x9 x10 x11 (some (.ml (List.replicate n (row h t st)))) x13 x14 (some (.int k)) (some (.ml (ks.map .int))) (some (.ml (ansL h t st ks))) x18 x19 none) =
      .nx (sP sc u v few x4 none rs h t x9 x10 x11 (some (.ml (List.replicate n (row h t st)))) x13 x14 (some (.int k)) (some (.ml (ks.map .int))) (some (.ml (ansL h t st ks))) x18 x19 none) := by
  have ip := ints_pure ks
  have ap := pls_pure (ans_pl w (show st.length < 900 by omega) ks)
  have vk : D.view (.ml (ks.map .int)) = .kl (ks.map .int) := vi_ml ip
  have va : D.view (.ml (ansL h t st ks)) = .kl (ansL h t st ks) := vi_ml ap
  have vr := @rowV_view' n h t st
  have ec := pu_bc (n := n) (sl := viewS (sP sc u v few x4 none rs h t x9 x10 x11 (some (.ml (List.replicate n (row h t st)))) x13 x14 (some (.int k)) (some (.ml (ks.map .int))) (some (.ml (ansL h t st ks))) x18 x19 none)) w hl hk
    (by show some (some (D.view _)) = _; rw [vr]) (by show some (some (D.view _)) = _; rw [vk]) (by show some (some (D.view _)) = _; rw [va]) rfl
  unfold pu8k5b4
  rw [sv_if, ev_roT, ev_andT]
  have e1 : dTB (d2 (cmpD' .NotEq) (d2 (binD .Mod) (dVar 15) (dCst (.int 3))) (dCst (.int 1))) (viewS (sP sc u v few x4 none rs h t x9 x10 x11 (some (.ml (List.replicate n (row h t st)))) x13 x14 (some (.int k)) (some (.ml (ks.map .int))) (some (.ml (ansL h t st ks))) x18 x19 none)) =
      .ok (!decide (k % 3 = 1)) (viewS (sP sc u v few x4 none rs h t x9 x10 x11 (some (.ml (List.replicate n (row h t st)))) x13 x14 (some (.int k)) (some (.ml (ks.map .int))) (some (.ml (ansL h t st ks))) x18 x19 none)) := by
    simp
  have bokT : ∀ {β : Type} (b : Bool) (ss : Sl) (k : Bool → Sl → Dn.R β), (Dn.R.ok b ss).bind k = k b ss := fun _ _ _ => rfl
  rw [e1, bokT]
  by_cases c : k % 3 = 1
  · rw [decide_eq_true c]
    simp
  · rw [decide_eq_false c, if_pos (by rfl), ev_tb, ev_d2, ec]
    simp [nil_ne]
theorem pu_b56 {h t : Int} {rs : List Rp} (w : Rw h t rs) (f0 : 0 < few) (f1 : few < 1000) : ∃ u' v' d, DeOk d ∧
    (pu8k5b5 [] (sP sc u v few x4 none rs h t x9 x10 x11 x12 x13 x14 x15 x16 x17 x18 x19 none)).seq (pu8k5b6 []) = .nx (sP sc u' v' few x4 none rs h t x9 x10 x11 x12 x13 x14 x15 x16 x17 (some (DeD d)) (some (.bl (dueB d h t))) none) := by
  obtain ⟨a1, b1, d, hd, e1⟩ := deed_spec u v h t few w.h0 w.ht w.hb f0 f1
  have e2 := due_spec d h t
  refine ⟨a1, b1, d, hd, ?_⟩
  have s1 : pu8k5b5 [] (sP sc u v few x4 none rs h t x9 x10 x11 x12 x13 x14 x15 x16 x17 x18 x19 none) = .nx (sP sc a1 b1 few x4 none rs h t x9 x10 x11 x12 x13 x14 x15 x16 x17 (some (DeD d)) x19 none) := by
    unfold pu8k5b5
    simp [e1]
  rw [s1, seqN]
  unfold pu8k5b6
  simp [e2]
theorem pu_b7 {n : Nat} {d : De} {st : List Rp} (hc : chain st) (hl : st.length < 900) :
    pu8k5b7 [] (sP sc u v few x4 none rs h t x9 x10 x11 (some (.ml (List.replicate n (row h t st)))) x13 x14 x15 x16 x17 (some (DeD d)) (some (.bl (dueB d h t))) none) =
      .nx (sP sc u v few x4 none rs h t x9 x10 x11 (some (.ml (List.replicate n (aft d h t st)))) x13 x14 x15 x16 x17 (some (DeD d)) (some (.bl (dueB d h t))) none) := by
  have e := pu_bm (sc := sc) (u := u) (v := v) (few := few) (rs := rs) (x4 := x4) (x9 := x9) (x10 := x10) (x11 := x11) (x13 := x13) (x14 := x14) (x15 := x15) (x16 := x16) (x17 := x17) (n := n) (d := d) (t := t) (h := h) hc hl
  unfold pu8k5b7
  rw [sv_if, ev_tb, ev_d2, e, bok]
  simp [nil_ne]
theorem pu_b8 {n : Nat} {d : De} {h t : Int} {rs : List Rp} (hl : rs.length < 60) :
    pu8k5b8 [] (sP sc u v few x4 none rs h t x9 x10 x11 x12 x13 x14 x15 x16 x17 (some (DeD d)) (some (.bl (dueB d h t))) none) =
      .nx (sP sc u v few x4 none (nxt d h t rs).2.2 (nxt d h t rs).1 (nxt d h t rs).2.1 x9 x10 x11 x12 x13 x14 x15 x16 x17 (some (DeD d)) (some (.bl (dueB d h t))) none) := by
  unfold pu8k5b8
  have al : rs.length < 16777216 := by omega
  cases d with
  | told s n =>
    by_cases c : t < s
    · have en : nxt (.told s n) h t rs = (h, s, rs ++ [(s, n)]) := if_pos c
      rw [en]
      simp [DeD, dueB, c, al]
      rfl
    · have en : nxt (.told s n) h t rs = (h, t, rs) := if_neg c
      rw [en]
      simp [DeD, dueB, c]
  | acked k =>
    by_cases c : h < k ∧ k ≤ t
    · have en : nxt (.acked k) h t rs = (k, t, rs) := if_pos c
      rw [en]
      simp [DeD, dueB, c, str_ne']
    · have en : nxt (.acked k) h t rs = (h, t, rs) := if_neg c
      rw [en]
      by_cases c1 : h < k
      · have c2 : ¬ k ≤ t := fun z => c ⟨c1, z⟩
        simp [DeD, dueB, c1, c2, str_ne']
      · simp [DeD, dueB, c1, str_ne']
theorem pu_b {n : Nat} {h t : Int} {rs : List Rp} {k : Int} (w : Rw h t rs) (hl : rs.length < 59) (f0 : 0 < few) (f1 : few < 1000) : ∃ u' v' h' t' rs' x16' x17' x18' x19', Rw h' t' rs' ∧ rs'.length ≤ rs.length + 1 ∧
    pu8k5b [] (sP sc u v few x4 none rs h t x9 x10 x11 (some (.ml (List.replicate n (row h t (falls h rs))))) x13 x14 (some (.int k)) x16 x17 x18 x19 none) =
      .nx (sP sc u' v' few x4 none rs' h' t' x9 x10 x11 (some (.ml (List.replicate n (row h' t' (falls h' rs'))))) x13 x14 (some (.int k)) x16' x17' x18' x19' none) := by
  have fl := falls_len (k := h) rs
  obtain ⟨u1, v1, ks, hk, e1⟩ := pu_b12 (sc := sc) (u := u) (v := v) (few := few) (x4 := x4) (x9 := x9) (x10 := x10) (x11 := x11) (x12 := some (.ml (List.replicate n (row h t (falls h rs))))) (x13 := x13) (x14 := x14) (x15 := some (.int k)) (x16 := x16) (x17 := x17) (x18 := x18) (x19 := x19) (x20 := none) (n := n) (R := .non) w (by omega)
  have e2 := pu_b3 (sc := sc) (u := u1) (v := v1) (few := few) (x4 := x4) (x9 := x9) (x10 := x10) (x11 := x11) (x12 := some (.ml (List.replicate n (row h t (falls h rs))))) (x13 := x13) (x14 := x14) (x15 := some (.int k)) (x17 := x17) (x18 := x18) (x19 := x19) (x20 := none) w (by omega) hk
  have e3 := pu_b4 (sc := sc) (u := u1) (v := v1) (few := few) (rs := rs) (x4 := x4) (x9 := x9) (x10 := x10) (x11 := x11) (x13 := x13) (x14 := x14) (x18 := x18) (x19 := x19) (n := n) (k := k) w.vs (by omega) hk
  obtain ⟨u2, v2, d, hd, e4⟩ := pu_b56 (sc := sc) (u := u1) (v := v1) (few := few) (x4 := x4) (x9 := x9) (x10 := x10) (x11 := x11) (x12 := some (.ml (List.replicate n (row h t (falls h rs))))) (x13 := x13) (x14 := x14) (x15 := some (.int k)) (x16 := some (.ml (ks.map .int))) (x17 := some (.ml (ansL h t (falls h rs) ks))) (x18 := x18) (x19 := x19) w f0 f1
  have e5 := pu_b7 (sc := sc) (u := u2) (v := v2) (few := few) (rs := rs) (t := t) (h := h) (x4 := x4) (x9 := x9) (x10 := x10) (x11 := x11) (x13 := x13) (x14 := x14) (x15 := some (.int k)) (x16 := some (.ml (ks.map .int))) (x17 := some (.ml (ansL h t (falls h rs) ks))) (n := n) (d := d) (st := falls h rs) (falls_chain rs) (by omega)
  have e6 := pu_b8 (sc := sc) (u := u2) (v := v2) (few := few) (x4 := x4) (x9 := x9) (x10 := x10) (x11 := x11) (x12 := some (.ml (List.replicate n (aft d h t (falls h rs))))) (x13 := x13) (x14 := x14) (x15 := some (.int k)) (x16 := some (.ml (ks.map .int))) (x17 := some (.ml (ansL h t (falls h rs) ks))) (n := n) (d := d) (h := h) (t := t) (rs := rs) (by omega)
  have na := nxt_aft (d := d) w
  refine ⟨u2, v2, _, _, _, some (.ml (ks.map .int)), some (.ml (ansL h t (falls h rs) ks)), some (DeD d), some (.bl (dueB d h t)), nxt_rw w hd, nxt_len d h t rs, ?_⟩
  have sa : ∀ {a b : SV} {s : Sl}, (dSeq a b [] s) = (a [] s).seq (b []) := rfl
  have as : ∀ {r : RS} {f g : Sl → RS}, (r.seq f).seq g = r.seq fun s => (f s).seq g := by intro r f g; cases r <;> rfl
  unfold pu8k5b
  rw [sa]
  have : (dSeq pu8k5b2 (dSeq pu8k5b3 (dSeq pu8k5b4 (dSeq pu8k5b5 (dSeq pu8k5b6 (dSeq pu8k5b7 pu8k5b8))))) []) = fun s => (pu8k5b2 [] s).seq (dSeq pu8k5b3 (dSeq pu8k5b4 (dSeq pu8k5b5 (dSeq pu8k5b6 (dSeq pu8k5b7 pu8k5b8)))) []) := rfl
  rw [this, ← as, e1, seqN, sa, e2, seqN, sa, e3, seqN, sa]
  have : (dSeq pu8k5b6 (dSeq pu8k5b7 pu8k5b8) []) = fun s => (pu8k5b6 [] s).seq (dSeq pu8k5b7 pu8k5b8 []) := rfl
  rw [this, ← as, e4, seqN, sa, e5, seqN, e6, na]
theorem pu_k5 {n : Nat} {h t : Int} {rs : List Rp} (w : Rw h t rs) (hl : rs.length ≤ 21) (f0 : 0 < few) (f1 : few < 1000) : ∃ u' v' h' t' rs' x15' x16' x17' x18' x19', Rw h' t' rs' ∧ rs'.length ≤ 40 ∧
    pu8k5 [] (sP sc u v few x4 none rs h t x9 x10 x11 (some (.ml (List.replicate n (row h t (falls h rs))))) x13 x14 none none none none none none) =
      .nx (sP sc u' v' few x4 none rs' h' t' x9 x10 x11 (some (.ml (List.replicate n (row h' t' (falls h' rs'))))) x13 x14 x15' x16' x17' x18' x19' none) := by
  obtain ⟨a1, b1, v1, m1, e1⟩ := pick_spec u v [.int 4, .int 8, .int 16] (Nat.succ_pos _) (by simp) rfl
  obtain ⟨m, rfl, hm0, hm1⟩ : ∃ x : Int, v1 = .int x ∧ 0 ≤ x ∧ x ≤ 16 := by
    simp only [List.mem_cons, List.not_mem_nil, or_false] at m1
    rcases m1 with h | h | h <;> exact ⟨_, h, by decide, by decide⟩
  unfold pu8k5
  simp (disch := omega) [e1]
  generalize hf : forGo _ _ _ _ _ _ = r
  obtain ⟨s2, rfl, u', v', h', t', rs', x15', x16', x17', x18', x19', e, w', hl'⟩ := for_of hf (fun j s => ∃ (u' v' h' t' : Int) (rs' : List Rp) (x15' x16' x17' x18' x19' : Option D), s = sP sc u' v' few x4 none rs' h' t' x9 x10 x11 (some (.ml (List.replicate n (row h' t' (falls h' rs'))))) x13 x14 x15' x16' x17' x18' x19' none ∧ Rw h' t' rs' ∧ rs'.length ≤ 21 + j)
    ⟨a1, b1, h, t, rs, none, none, none, none, none, rfl, w, by omega⟩ (fun _ _ _ => src_none) (fun j s d ⟨u, v, h, t, rs, x15, x16, x17, x18, x19, e, w, hl⟩ hd => by
      subst e
      obtain ⟨hj, rfl⟩ := rng_get hd
      have hj16 : j < 16 := by omega
      obtain ⟨u', v', h', t', rs', y16, y17, y18, y19, w', l', eb⟩ := pu_b (sc := sc) (u := u) (v := v) (few := few) (x4 := x4) (x9 := x9) (x10 := x10) (x11 := x11) (x13 := x13) (x14 := x14) (x16 := x16) (x17 := x17) (x18 := x18) (x19 := x19) (n := n) (k := 0 + (j : Int)) w (by omega) f0 f1
      exact ⟨sP sc u v few x4 none rs h t x9 x10 x11 (some (.ml (List.replicate n (row h t (falls h rs))))) x13 x14 (some (.int (0 + (j : Int)))) x16 x17 x18 x19 none, _, by simp, .inl eb, u', v', h', t', rs', _, y16, y17, y18, y19, rfl, w', by omega⟩)
  refine ⟨u', v', h', t', rs', w', ?_, x15', x16', x17', x18', x19', by rw [e]⟩
  have : (rngD 0 m.toNat).length ≤ 16 := by simp [rngD]; omega
  have hl' : rs'.length ≤ 21 + (rngD 0 m.toNat).length := hl'
  omega
theorem pu_k6 {n : Nat} {h t h0 t0 : Int} {rs : List Rp} {st : List Rp} (w : Rw h t rs) (hl : rs.length ≤ 40) (w0 : Vs h0 t0 st) (hl0 : st.length ≤ 21) (hn : 0 < n) : ∃ s',
    pu8k6 [] (sP sc u v few x4 none rs h t (some (stT h0 t0 st)) x10 x11 (some (.ml (List.replicate n (row h t (falls h rs))))) (some (row h0 t0 st)) (some (row h0 t0 st)) x15 x16 x17 x18 x19 none) =
      .rt (.bl true) (sP sc u v few x4 none rs h t (some (stT h0 t0 st)) x10 x11 (some (.ml (List.replicate n (row h t (falls h rs))))) (some (row h0 t0 st)) (some (row h0 t0 st)) x15 x16 x17 x18 x19 none) ∧ s' = () := by
  have fl := falls_len (k := h) rs
  have e1 := state_spec h0 t0 st (by omega)
  have e2 := like_spec (pl_state (h := h0) (t := t0) (show st.length < 1000 by omega) fun q hq => nv_sh (w0.nm q hq))
  have e3 := state_spec h t (falls h rs) (by omega)
  have e4 := like_spec (pl_state (h := h) (t := t) (show (falls h rs).length < 1000 by omega) fun q hq => nv_sh (w.vs.nm q hq))
  have e5 := state_kl h t rs (by omega)
  have vr := @rowV_view' n h t (falls h rs)
  have at0 : atI (List.replicate n (rowV h t (falls h rs))) 0 = some (rowV h t (falls h rs)) := by
    cases n with
    | zero => omega
    | succ n => rw [List.replicate_succ, at0]
  refine ⟨(), ?_, rfl⟩
  unfold pu8k6
  simp [rds_pure, vr, at0, e1, e2, e3, e4, e5]
end
theorem part_two (sc : List Int) : F__law_part_two [.lst (sc.map .int)] = .ok (.bl true) [.lst (sc.map .int)] := by
  obtain ⟨u, v, few, h, t, rs, h', t', rs', h2, t2, st2, f0, f1, w, l, w', l', w2, l2, e1⟩ := pu_17 sc
  have fl := falls_len (k := h) rs
  have fl' := falls_len (k := h') rs'
  have as : ∀ {r : RS} {f g : Sl → RS}, (r.seq f).seq g = r.seq fun s => (f s).seq g := by intro r f g; cases r <;> rfl
  have key : ∃ s, pu [] (some (.lst (sc.map .int)) :: List.replicate 20 none) = .rt (.bl true) (some (.lst (sc.map .int)) :: s) := by
    have e0 : pu [] (some (.lst (sc.map .int)) :: List.replicate 20 none) = (((((((pu1 [] (some (.lst (sc.map .int)) :: List.replicate 20 none)).seq (pu2 [])).seq (pu3 [])).seq (pu4 [])).seq (pu5 [])).seq (pu6 [])).seq (pu7 [])).seq (pu8 []) := by
      simp only [as]
      rfl
    rw [e0, e1, seqN, pu_8 w.vs (by omega)]
    unfold pu8k
    rw [sv_seq, pu_k1 (n := 0) (R := .non) (X := .non) (Y := .non) w'.vs (by omega) (by omega), seqN, sv_seq, pu_k2 w.vs (by omega) w2 l2, seqN]
    obtain ⟨n, n0, n5, e3⟩ := pu_k3 (sc := sc) (u := u) (v := v) (few := few) (rs := rs) (x4 := some (.mt [row h' t' (falls h' rs'), .ml (rs'.map Rd), .int h', .int t'])) (x10 := some (stT h' t' (falls h' rs'))) (x13 := some (row h t (falls h rs))) (x14 := some (row h t (falls h rs))) w.vs (by omega) w2 l2
    obtain ⟨a4, b4, e4⟩ := box_spec sc 2 (by decide)
    rw [sv_seq, e3, seqN, sv_seq]
    have e5 : pu8k4 [] (sP sc u v few (some (.mt [row h' t' (falls h' rs'), .ml (rs'.map Rd), .int h', .int t'])) none rs h t (some (stT h t (falls h rs))) (some (stT h' t' (falls h' rs'))) (some (stT h2 t2 st2)) (some (.ml (List.replicate n (row h t (falls h rs))))) (some (row h t (falls h rs))) (some (row h t (falls h rs))) none none none none none none) =
        .nx (sP sc a4 b4 few (some (.mt [row h' t' (falls h' rs'), .ml (rs'.map Rd), .int h', .int t'])) none rs h t (some (stT h t (falls h rs))) (some (stT h' t' (falls h' rs'))) (some (stT h2 t2 st2)) (some (.ml (List.replicate n (row h t (falls h rs))))) (some (row h t (falls h rs))) (some (row h t (falls h rs))) none none none none none none) := by
      unfold pu8k4
      simp [e4]
    rw [e5, seqN, sv_seq]
    obtain ⟨u6, v6, h6, t6, rs6, y15, y16, y17, y18, y19, w6, l6, e6⟩ := pu_k5 (sc := sc) (u := a4) (v := b4) (few := few) (x4 := some (.mt [row h' t' (falls h' rs'), .ml (rs'.map Rd), .int h', .int t'])) (x9 := some (stT h t (falls h rs))) (x10 := some (stT h' t' (falls h' rs'))) (x11 := some (stT h2 t2 st2)) (x13 := some (row h t (falls h rs))) (x14 := some (row h t (falls h rs))) (n := n) w (by omega) f0 f1
    obtain ⟨_, e7, _⟩ := pu_k6 (sc := sc) (u := u6) (v := v6) (few := few) (x4 := some (.mt [row h' t' (falls h' rs'), .ml (rs'.map Rd), .int h', .int t'])) (x10 := some (stT h' t' (falls h' rs'))) (x11 := some (stT h2 t2 st2)) (x15 := y15) (x16 := y16) (x17 := y17) (x18 := y18) (x19 := y19) (n := n) (h0 := h) (t0 := t) (st := falls h rs) w6 l6 w.vs (by omega) n0
    rw [e6, seqN, sv_seq, e7]
    exact ⟨_, rfl⟩
  obtain ⟨s, e⟩ := key
  rw [pu_eq, fn_ap, if_pos ⟨rfl, by decide⟩]
  show endF _ (pu [] (some (.lst (sc.map .int)) :: List.replicate 20 none)) = _
  rw [e]
  simp
end K06

set_option Elab.async false
set_option linter.all false
set_option maxRecDepth 100000
set_option maxHeartbeats 4000000
/-! Dn18: comprehensions that change nothing, as filter and map. -/
namespace Dn
open PySem L2
@[simp] theorem bin_addKM {a b : List D} : binD .Add (.kl a) (.ml b) = if a.length + b.length ≤ sizeLine ∧ allPure b = true then some (.ml (a ++ b)) else none := rfl
@[simp] theorem bin_addMK {a b : List D} : binD .Add (.ml a) (.kl b) = if a.length + b.length ≤ sizeLine ∧ allPure a = true then some (.ml (a ++ b)) else none := rfl
@[simp] theorem bin_addKK {a b : List D} : binD .Add (.kl a) (.kl b) = if a.length + b.length ≤ sizeLine then some (.ml (a ++ b)) else none := rfl
@[simp] theorem bin_addKL {a b : List D} : binD .Add (.kl a) (.lst b) = if a.length + b.length ≤ sizeLine then some (.ml (a ++ b)) else none := rfl
@[simp] theorem bin_addLK {a b : List D} : binD .Add (.lst a) (.kl b) = if a.length + b.length ≤ sizeLine then some (.ml (a ++ b)) else none := rfl
theorem bokX {α β : Type} (a : α) (ss : Sl) (k : α → Sl → R β) : (R.ok a ss).bind k = k a ss := rfl
theorem tokX {α : Type} (a : α) (ss : Sl) (k : α → Sl → RS) : (R.ok a ss).toS k = k a ss := rfl
theorem seqX {ss : Sl} {k : Sl → RS} : (RS.nx ss).seq k = k ss := rfl
theorem seqA {r : RS} {f g : Sl → RS} : (r.seq f).seq g = r.seq fun s => (f s).seq g := by cases r <;> rfl
theorem set_none {sl : Sl} {i : Nat} (g : sl[i]? = some none) : sl.set i none = sl := by
  apply List.ext_getElem?
  intro j
  by_cases z : j = i
  · subst z
    rw [g, List.getElem?_set_self (List.getElem?_eq_some_iff.mp g).1]
  · rw [List.getElem?_set_ne (Ne.symm z)]
/-- a comprehension over values, test and item of which change nothing but the names of its own -/
theorem lc_gen {g : IV} {tg : Tg} {tt : TV} {te : EV} {vs : List Nat} {it : ItD} {ss : Sl} (p : D → Bool) (f : D → D) (st : D → Sl) (hg : g ss = .ok it ss) (hp : purS ss vs = true) (hw : wipeS ss vs = ss) (hr : restS ss ss vs = ss)
    (hsrc : srcOk it ss = true) (hl : it.ds.length ≤ 16777216)
    (step : ∀ d ∈ it.ds, tgSet (outL ss.length vs) tg d ss = some (st d) ∧ wipeS (st d) vs = ss ∧ purS (st d) vs = true ∧ (st d).length = ss.length ∧ tt (st d) = .ok (p d) (st d) ∧ (p d = true → te (st d) = .ok (.val (f d)) (st d) ∧ (f d).pure = true)) :
    dLc g tg tt te vs ss = .ok (.val (.ml ((it.ds.filter p).map f))) ss := by
  rw [ev_lc, hg, bokX, if_pos hp]
  generalize hf : lcGo _ _ _ _ _ _ _ _ = r
  obtain ⟨acc, s, rfl, e1, e2, e3, e4⟩ := lc_of hf (fun j acc s => acc = ((it.ds.take j).filter p).map f ∧ wipeS s vs = ss ∧ purS s vs = true ∧ s.length = ss.length)
    ⟨by simp, hw, hp, rfl⟩ (fun j acc s ⟨_, e2, e3, _⟩ => ⟨e3, by rw [e2]; exact hsrc⟩) (fun j acc s d ⟨e1, e2, e3, e4⟩ hd => by
      obtain ⟨q1, q2, q3, q4, q5, q6⟩ := step d (List.mem_of_getElem? hd)
      have hj : j < it.ds.length := (List.getElem?_eq_some_iff.mp hd).1
      have tk : it.ds.take (j + 1) = it.ds.take j ++ [d] := by rw [List.take_succ, hd]; rfl
      refine ⟨st d, p d, st d, by rw [e2, e4]; exact q1, q5, fun hb => ?_, fun hb => ?_⟩
      · obtain ⟨r1, r2⟩ := q6 hb
        refine ⟨f d, st d, r1, r2, ?_, ?_, q2, q3, q4⟩
        · rw [e1, List.length_map]
          have := List.length_filter_le p (it.ds.take j)
          rw [List.length_take] at this
          have : sizeLine = 16777216 := rfl
          omega
        · rw [e1, tk, List.filter_append, List.map_append]
          simp [hb]
      · refine ⟨?_, q2, q3, q4⟩
        rw [e1, tk, List.filter_append, List.map_append]
        simp [hb])
  rw [List.take_length] at e1
  rw [bokX, e2, lcEnd_ap, hr, e1]
theorem lc_one {g : IV} {i : Nat} {tt : TV} {te : EV} {it : ItD} {ss : Sl} (p : D → Bool) (f : D → D) (hg : g ss = .ok it ss) (hi : ss[i]? = some none) (hsrc : srcOk it ss = true) (hl : it.ds.length ≤ 16777216)
    (step : ∀ d ∈ it.ds, d.pure = true ∧ tt (ss.set i (some d)) = .ok (p d) (ss.set i (some d)) ∧ (p d = true → te (ss.set i (some d)) = .ok (.val (f d)) (ss.set i (some d)) ∧ (f d).pure = true)) :
    dLc g (.nm i) tt te [i] ss = .ok (.val (.ml ((it.ds.filter p).map f))) ss := by
  have hlen : i < ss.length := (List.getElem?_eq_some_iff.mp hi).1
  have hn := set_none hi
  refine lc_gen p f (fun d => ss.set i (some d)) hg (by simp [hi]) (by simpa using hn) (by simp [hi, hn]) hsrc hl fun d hd => ?_
  obtain ⟨q1, q2, q3⟩ := step d hd
  refine ⟨?_, by simp [List.set_set, hn], by simp [hlen, q1], by simp, q2, q3⟩
  rw [tg_nm, set1_ap, if_neg]
  rw [mem_out]
  simp
  exact hlen
/-- all items, no test -/
theorem lc_map {g : IV} {i : Nat} {te : EV} {it : ItD} {ss : Sl} (f : D → D) (hg : g ss = .ok it ss) (hi : ss[i]? = some none) (hsrc : srcOk it ss = true) (hl : it.ds.length ≤ 16777216)
    (step : ∀ d ∈ it.ds, d.pure = true ∧ te (ss.set i (some d)) = .ok (.val (f d)) (ss.set i (some d)) ∧ (f d).pure = true) :
    dLc g (.nm i) dYes te [i] ss = .ok (.val (.ml (it.ds.map f))) ss := by
  have := lc_one (tt := dYes) (fun _ => true) f hg hi hsrc hl fun d hd => let ⟨a, b, c⟩ := step d hd; ⟨a, rfl, fun _ => ⟨b, c⟩⟩
  rw [this, List.filter_eq_self.mpr fun _ _ => rfl]
end Dn

set_option Elab.async false
set_option linter.all false
set_option maxRecDepth 100000
set_option maxHeartbeats 4000000
namespace K06
open PySem L2 Dn
/-! ### one state spoilt -/
theorem ne_tnil {m : Nat} {ds : List D} (h : dt m (.tup ds)) (hm : m ≤ 64) : cmpD' .NotEq (.tup ds) (.tup []) = some (.bl (!ds.isEmpty)) := by
  have e := eq_tnil h hm
  show Option.map D.bl (Option.map (fun x => !x) (eqD (.tup ds) (.tup []))) = _
  rw [e]; rfl
theorem spoilt_spec (u v h t : Int) (st : List Rp) (hs : ∀ q ∈ st, sh q.2) (hb : ∀ q ∈ st, q.1.natAbs < 2 ^ 64) (h0 : 0 < st.length) (hl : st.length < 60) : ∃ u' v' d, dt 8 d ∧ F__law_spoilt [.ml [.int u, .int v], stT h t st] = .ok d [.ml [.int u', .int v'], stT h t st] := by
  obtain ⟨a1, b1, r, p1, q1, e1⟩ := take_spec u v (st.length : Int) (by omega) (by omega)
  obtain ⟨k, rfl⟩ : ∃ k : Nat, r = (k : Int) := ⟨r.toNat, by omega⟩
  have hk : k < st.length := by omega
  obtain ⟨q, hq⟩ : ∃ q, st[k]? = some q := ⟨st[k], List.getElem?_eq_getElem hk⟩
  have hqm : q ∈ st := List.mem_of_getElem? hq
  have i1 : atI (st.map Rd) (k : Int) = some (Rd q) := at_nat (by rw [List.getElem?_map, hq]; rfl)
  have s1 : sp1 [0] [some (.ml [.int u, .int v]), some (stT h t st), none, none, none, none, none, none, none, none] = .nx [some (.ml [.int u, .int v]), some (stT h t st), some (.int h), some (.int t), some (.tup (st.map Rd)), none, none, none, none, none] := by
    unfold sp1; simp
  have s2 : sp2 [0] [some (.ml [.int u, .int v]), some (stT h t st), some (.int h), some (.int t), some (.tup (st.map Rd)), none, none, none, none, none] = .nx [some (.ml [.int a1, .int b1]), some (stT h t st), some (.int h), some (.int t), some (.tup (st.map Rd)), some (.int (k : Int)), none, none, none, none] := by
    unfold sp2; simp [e1]
  have s3 : sp3 [0] [some (.ml [.int a1, .int b1]), some (stT h t st), some (.int h), some (.int t), some (.tup (st.map Rd)), some (.int (k : Int)), none, none, none, none] = .nx (sS a1 b1 h t st k q none none) := by
    have tg : tgSet [0] (.tp [6, 7]) (Rd q) [some (.ml [.int a1, .int b1]), some (stT h t st), some (.int h), some (.int t), some (.tup (st.map Rd)), some (.int (k : Int)), none, none, none, none] = some (sS a1 b1 h t st k q none none) := by
      show tgSet [0] (.tp [6, 7]) (.tup [.int q.1, Nd q.2]) _ = _
      simp
    unfold sp3; simp [i1, tg]
  obtain ⟨x, y, hx, hy, s4⟩ := sp_4 (u := a1) (v := b1) (h := h) (t := t) (q := q) hs hk
  obtain ⟨es, he, hel, s5⟩ := sp_58 (u := a1) (v := b1) (h := h) (t := t) (st := st) (k := k) hx hy (hs q hqm) (hb q hqm)
  have hep : allPure es = true := List.all_eq_true.mpr fun d hd => dt_pure (he d hd)
  obtain ⟨a9, b9, d, hd, e9⟩ := pickM_spec a1 b1 es (by omega) (by omega) hep
  have pd := dt_pure (he d hd)
  have zd := frz_p pd
  have c1 : cutL (st.map Rd) none (some (k : Int)) = (st.take k).map Rd := by rw [cut_take (by rw [List.length_map]; omega), List.map_take]
  have c2 : cutL (st.map Rd) (some ((k : Int) + 1)) none = (st.drop (k + 1)).map Rd := by rw [cut_drop (by rw [List.length_map]; omega), List.map_drop]
  have l3 : min k st.length + 1 ≤ 16777216 := by omega
  have l4 : min k st.length + 1 + (st.length - (k + 1)) ≤ 16777216 := by omega
  have s9 : sp9 [0] (sS a1 b1 h t st k q (some (.tup [x, y])) (some (.ml es))) = .rt (.tup [.int h, .int t, .tup ((st.take k).map Rd ++ [d] ++ (st.drop (k + 1)).map Rd)]) (sS a9 b9 h t st k q (some (.tup [x, y])) (some (.ml es))) := by
    unfold sp9
    simp [dSl, dPart, asP, dNoP, op3s, slD, rds_pure, -List.map_take, -List.map_drop, c1, c2, e9, pd, zd, l3, l4]
  refine ⟨a9, b9, .tup [.int h, .int t, .tup ((st.take k).map Rd ++ [d] ++ (st.drop (k + 1)).map Rd)], ?_, ?_⟩
  rotate_left
  · have e5 : sp [0] [some (.ml [.int u, .int v]), some (stT h t st), none, none, none, none, none, none, none, none] = .rt (.tup [.int h, .int t, .tup ((st.take k).map Rd ++ [d] ++ (st.drop (k + 1)).map Rd)]) (sS a9 b9 h t st k q (some (.tup [x, y])) (some (.ml es))) := by
      unfold sp
      rw [sv_seq, s1, seqN, sv_seq, s2, seqN, sv_seq, s3, seqN, sv_seq, s4, seqN]
      have : ∀ s, dSeq sp5 (dSeq sp6 (dSeq sp7 (dSeq sp8 sp9))) [0] s = ((((sp5 [0] s).seq (sp6 [0])).seq (sp7 [0])).seq (sp8 [0])).seq (sp9 [0]) := by
        intro s
        simp only [sv_seq, seqA]
        rfl
      rw [this, s5, seqN, s9]
    rw [sp_eq, fn_ap, if_pos ⟨rfl, by decide⟩]
    show endF _ (sp [0] [some (.ml [.int u, .int v]), some (stT h t st), none, none, none, none, none, none, none, none]) = _
    rw [e5]
    simp
  · refine dt_tup (by simp) ?_
    refine List.forall_mem_cons.mpr ⟨dt_int _, List.forall_mem_cons.mpr ⟨dt_int _, List.forall_mem_cons.mpr ⟨dt_tup ?_ fun z hz => ?_, List.forall_mem_nil _⟩⟩⟩
    · simp; omega
    · rcases List.mem_append.mp hz with hz | hz
      · rcases List.mem_append.mp hz with hz | hz
        · obtain ⟨r, hr, e⟩ := List.mem_map.mp hz
          subst e
          exact dt_mono (by decide) (dt_rd (hs r (List.mem_of_mem_take hr)))
        · have : z = d := by simpa using hz
          rw [this]; exact dt_mono (by decide) (he d hd)
      · obtain ⟨r, hr, e⟩ := List.mem_map.mp hz
        subst e
        exact dt_mono (by decide) (dt_rd (hs r (List.mem_of_mem_drop hr)))
end K06

set_option Elab.async false
set_option linter.all false
set_option maxRecDepth 100000
set_option maxHeartbeats 4000000
namespace K06
open PySem L2 Dn
noncomputable def po1 : SV := (dSet 1 (dCall 2 F__law_box (foldA [(dVar 0), (dCst (.int 0))])))
noncomputable def po2 : SV := (dSet 2 (dLst (foldA [(dFrz (dCst .non)), (dFrz (dTup (foldA []))), (dFrz (dLst (foldA [(dFrz (dCst (.int 0))), (dFrz (dCst (.int 0))), (dFrz (dTup (foldA [])))]))), (dFrz (dTup (foldA [(dFrz (dCst (.int 0))), (dFrz (dCst (.int 0)))]))), (dFrz (dTup (foldA [(dFrz (dCst (.int 0))), (dFrz (dCst (.int 0))), (dFrz (dTup (foldA []))), (dFrz (dTup (foldA [])))]))), (dFrz (dTup (foldA [(dFrz (dCst (.int 0))), (dFrz (dCst (.int 0))), (dFrz (dLst (foldA [])))]))), (dFrz (dTup (foldA [(dFrz (dCst (.int 0))), (dFrz (dCst (.int 0))), (dFrz (dCst .non))]))), (dFrz (dTup (foldA [(dFrz (dCst (.int 0))), (dFrz (dCst (.int 1))), (dFrz (dTup (foldA [])))]))), (dFrz (dTup (foldA [(dFrz (dCst (.int 0))), (dFrz (dCst (.int 0))), (dFrz (dTup (foldA [(dFrz (dTup (foldA [(dFrz (dCst (.int 0))), (dFrz (dCst .non))])))])))]))), (dFrz (dTup (foldA [(dFrz (dCst (.int 0))), (dFrz (dCst (.int 0))), (dFrz (dTup (foldA [(dFrz (dTup (foldA [(dFrz (dCst (.int 0))), (dFrz (dTup (foldA [(dFrz (dCst (.int 4))), (dFrz (dCst (.int 2)))])))])))])))])))])))
noncomputable def po3 : SV := (dFor (dSeqIt (dFrz (d2 (binD .Add) (dVar 2) (dLst (foldA [(dFrz (dTup (foldA [(dFrz (dCst (.int 1))), (dFrz (dCst (.int 0))), (dFrz (dTup (foldA [])))]))), (dFrz (dTup (foldA [(dFrz (dCst (.int 0))), (dFrz (dCst (.int 0))), (dFrz (dTup (foldA [])))]))), (dFrz (dTup (foldA [(dFrz (dCst (.int 0))), (dFrz (dCst (.bl true))), (dFrz (dTup (foldA [(dFrz (dTup (foldA [(dFrz (dCst (.int 1))), (dFrz (dCst .non))])))])))]))), (dFrz (dTup (foldA [(dFrz (dCst (.bl false))), (dFrz (dCst (.int 0))), (dFrz (dTup (foldA [])))]))), (dFrz (dCst (.str "000"))), (dFrz (dCst (.int 0))), (dFrz (dTup (foldA [(dFrz (dCst (.int 0))), (dFrz (dCst (.int 0))), (dFrz (dTup (foldA [(dFrz (dTup (foldA [(dFrz (dCst (.int 0))), (dFrz (dTup (foldA [(dFrz (dCst (.int 4))), (dFrz (dCst (.int 2)))])))]))), (dFrz (dTup (foldA [(dFrz (dCst (.int 0))), (dFrz (dTup (foldA [(dFrz (dCst (.int 5))), (dFrz (dCst (.int 2)))])))])))])))])))]))))) (.nm 3) (dIf (dNotT (dTr (dCall 1 F__law_judged (foldA [(dVar 3)])))) (dRet (dCst (.bl false))) dPass))
noncomputable def po4b1 : SV := (dSet 1 (dCall 2 F__law_box (foldA [(dVar 0), (dFrz (d2 (binD .Add) (dCst (.int 1)) (dVar 4)))])))
noncomputable def po4b2 : SV := (dUnp (.tp [5, 6, 7, 8]) (dCall 1 F__law_drawn (foldA [(dVar 1)])))
noncomputable def po4b3 : SV := (dSet 9 (dCall 3 F__law_state (foldA [(dVar 6), (dVar 7), (dVar 8)])))
noncomputable def po4b4 : SV := (dIf (dROT (dOrT (dNotT (dTr (dCall 2 F__law_like (foldA [(dMeth false [(("Row", some "state"), ⟨["self"], F_Row_state, H_Row_state⟩)] "state" (dVar 5) []), (dVar 9)])))) (dNotT (dTr (dCall 1 F__law_judged (foldA [(dVar 9)])))))) (dRet (dCst (.bl false))) dPass)
noncomputable def po4b5 : SV := (dIf (dTB (d2 (cmpD' .Gt) (dVar 8) (dCst (.int 0)))) (dFor (dSeqIt (dFrz (d2 (binD .Add) (dLst (foldA [(dFrz (dPrim (bltD .max) (foldA [(dVar 7), (dCst (.int 1))])))])) (dLc (dSeqIt (dFrz (dVar 6))) (.tp [16, 17]) (dTB (d2 (cmpD' .GtE) (dVar 16) (dPrim (bltD .max) (foldA [(dVar 7), (dCst (.int 1))])))) (dFrz (dVar 16)) [16, 17])))) (.nm 10) (dIf (dROT (dNotT (dTr (dCall 2 F__law_like (foldA [(dMeth false [(("Row", some "since"), ⟨["self", "k"], F_Row_since, H_Row_since⟩)] "since" (dVar 5) [(dVar 10)]), (dFrz (d2 ixD (dLc (dSeqIt (dFrz (d2 ixD (dVar 9) (dCst (.int 2))))) (.nm 18) (dTB (d2 (cmpD' .GtE) (d2 ixD (dVar 18) (dCst (.int 0))) (dVar 10))) (dFrz (d2 ixD (dVar 18) (dCst (.int 1)))) [18]) (dCst (.int 0))))]))))) (dRet (dCst (.bl false))) dPass)) dPass)
noncomputable def po4b6 : SV := (dSet 11 (d2 ixD (dVar 9) (dCst (.int 2))))
noncomputable def po4b7 : SV := (dFor (dRng (foldA [(dIfE (dTB (d2 (cmpD' .NotEq) (dVar 11) (dTup (foldA [])))) (dCst (.int 10)) (dCst (.int 0)))])) (.nm 12) (dIf (dNotT (dTr (dCall 1 F__law_judged (foldA [(dCall 2 F__law_spoilt (foldA [(dVar 1), (dVar 9)]))])))) (dRet (dCst (.bl false))) dPass))
noncomputable def po4b8 : SV := (dSet 13 (dRO (d2 (binD .Add) (dLc (dSeqIt (dFrz (dTup (foldA [(dFrz (d1 negD (dCst (.int 1)))), (dFrz (dCst (.int 1)))])))) (.nm 14) dYes (dFrz (dTup (foldA [(dFrz (d2 (binD .Add) (dVar 7) (dVar 14))), (dFrz (dVar 8)), (dFrz (dVar 11))]))) [14]) (dLc (dSeqIt (dFrz (dTup (foldA [(dFrz (dCst (.int 0))), (dFrz (d1 negD (dCst (.int 1)))), (dFrz (dVar 8)), (dFrz (d2 (binD .Add) (dVar 8) (dCst (.int 1)))), (dFrz (dPrim (bltD .str) (foldA [(dVar 7)]))), (dFrz (dCst (.bl true))), (dFrz (dCst .non))])))) (.nm 15) dYes (dFrz (dTup (foldA [(dFrz (dVar 15)), (dFrz (dVar 8)), (dFrz (dVar 11))]))) [15]))))
noncomputable def po4b9 : SV := (dSet 13 (dRO (d2 (binD .Add) (dVar 13) (dLc (dSeqIt (dFrz (dTup (foldA [(dFrz (d2 (binD .Sub) (dVar 8) (dCst (.int 1)))), (dFrz (d2 (binD .Add) (dVar 8) (dCst (.int 1)))), (dFrz (dCst .non)), (dFrz (dCst (.bl false))), (dFrz (dPrim (bltD .str) (foldA [(dVar 8)])))])))) (.nm 15) dYes (dFrz (dTup (foldA [(dFrz (dVar 7)), (dFrz (dVar 15)), (dFrz (dVar 11))]))) [15]))))
noncomputable def po4b10 : SV := (dFor (dSeqIt (dFrz (d2 (binD .Add) (dVar 13) (dLc (dSeqIt (dFrz (dTup (foldA [(dFrz (dSl (dVar 11) (dPart (dCst (.int 1))) dNoP)), (dFrz (dSl (dVar 11) dNoP (dPart (d1 negD (dCst (.int 1)))))), (dFrz (d2 (binD .Add) (dVar 11) (dVar 11))), (dFrz (dPrim (bltD .list) (foldA [(dVar 11)]))), (dFrz (dTup (foldA []))), (dFrz (dCst .non))])))) (.nm 15) dYes (dFrz (dTup (foldA [(dFrz (dVar 7)), (dFrz (dVar 8)), (dFrz (dVar 15))]))) [15])))) (.nm 3) (dIf (dNotT (dTr (dCall 1 F__law_judged (foldA [(dVar 3)])))) (dRet (dCst (.bl false))) dPass))
noncomputable def po4b : SV := dSeq po4b1 (dSeq po4b2 (dSeq po4b3 (dSeq po4b4 (dSeq po4b5 (dSeq po4b6 (dSeq po4b7 (dSeq po4b8 (dSeq po4b9 po4b10))))))))
noncomputable def po4 : SV := (dFor (dRng (foldA [(dCst (.int 4))])) (.nm 4) po4b)
noncomputable def po5 : SV := (dRet (dCst (.bl true)))
noncomputable def po : SV := dSeq po1 (dSeq po2 (dSeq po3 (dSeq po4 po5)))
theorem po_eq : F__law_part_one = dFn 1 19 po := f__law_part_one
/-! ### part one -/
def serP (k : Int) (d : D) : Bool := match d with
  | .tup [.int s, _] => decide (k ≤ s)
  | _ => false
def numF (d : D) : D := match d with
  | .tup [_, n] => n
  | _ => .non
def serF (d : D) : D := match d with
  | .tup [s, _] => s
  | _ => .non
theorem filt_rd (k : Int) (st : List Rp) : (st.map Rd).filter (serP k) = (st.filter fun q => decide (k ≤ q.1)).map Rd := by
  rw [List.filter_map]; rfl
theorem ge_max {h t k : Int} : cmpD' .GtE (.int h) (.int t) = some (.bl (decide (t ≤ h))) := rfl
section
variable {sc : List Int} {u v h t : Int} {rs : List Rp} {x2 x3 x10 x11 x12 x13 x14 x15 x16 x17 x18 : Option D} {k : Int}
abbrev sQ (sc : List Int) (u v : Int) (x2 x3 : Option D) (k : Int) (rs : List Rp) (h t : Int) (x10 x11 x12 x13 : Option D) : Sl :=
  [some (.lst (sc.map .int)), some (.ml [.int u, .int v]), x2, x3, some (.int k), some (row h t (falls h rs)), some (.ml (rs.map Rd)), some (.int h), some (.int t), some (stT h t (falls h rs)), x10, x11, x12, x13, none, none, none, none, none]
theorem po_b4 (w : Rw h t rs) (hl : rs.length < 60) : po4b4 [] (sQ sc u v x2 x3 k rs h t x10 x11 x12 x13) = .nx (sQ sc u v x2 x3 k rs h t x10 x11 x12 x13) := by
  have fl := falls_len (k := h) rs
  have e1 := state_spec h t (falls h rs) (by omega)
  have e2 := like_spec (pl_state (h := h) (t := t) (show (falls h rs).length < 1000 by omega) fun q hq => nv_sh (w.vs.nm q hq))
  have e3 := judged_spec (dt_state (h := h) (t := t) (show (falls h rs).length < 1000 by omega) fun q hq => nv_sh (w.vs.nm q hq)) (by decide)
  unfold po4b4
  simp [rds_pure, e1, e2, e3]
/-- the serials at which is asked -/
theorem po_src (w : Rw h t rs) (hl : rs.length < 60) :
    dSeqIt (dFrz (d2 (binD .Add) (dLst (foldA [(dFrz (dPrim (bltD .max) (foldA [(dVar 7), (dCst (.int 1))])))])) (dLc (dSeqIt (dFrz (dVar 6))) (.tp [16, 17]) (dTB (d2 (cmpD' .GtE) (dVar 16) (dPrim (bltD .max) (foldA [(dVar 7), (dCst (.int 1))])))) (dFrz (dVar 16)) [16, 17]))) (sQ sc u v x2 x3 k rs h t x10 x11 x12 x13) =
      .ok ⟨(max h 1 :: (rs.filter fun q => decide (max h 1 ≤ q.1)).map (·.1)).map .int, none⟩ (sQ sc u v x2 x3 k rs h t x10 x11 x12 x13) := by
  have e1 : dLc (dSeqIt (dFrz (dVar 6))) (.tp [16, 17]) (dTB (d2 (cmpD' .GtE) (dVar 16) (dPrim (bltD .max) (foldA [(dVar 7), (dCst (.int 1))])))) (dFrz (dVar 16)) [16, 17] (sQ sc u v x2 x3 k rs h t x10 x11 x12 x13) =
      .ok (.val (.ml ((rs.filter fun q => decide (max h 1 ≤ q.1)).map fun q => .int q.1))) (sQ sc u v x2 x3 k rs h t x10 x11 x12 x13) := by
    rw [lc_gen (it := ⟨rs.map Rd, some (6, rs.map Rd)⟩) (serP (max h 1)) serF (fun d => [some (.lst (sc.map .int)), some (.ml [.int u, .int v]), x2, x3, some (.int k), some (row h t (falls h rs)), some (.ml (rs.map Rd)), some (.int h), some (.int t), some (stT h t (falls h rs)), x10, x11, x12, x13, none, none, some (serF d), some (numF d), none])
      (by simp [rds_pure]) (by simp) (by simp) (by simp) (src_some rfl) (by show (rs.map Rd).length ≤ _; rw [List.length_map]; omega) fun d hd => by
        obtain ⟨q, hq, e⟩ := List.mem_map.mp hd
        subst e
        have z1 : serF (Rd q) = .int q.1 := rfl
        have z2 : numF (Rd q) = Nd q.2 := rfl
        have z3 : serP (max h 1) (Rd q) = decide (max h 1 ≤ q.1) := rfl
        rw [z1, z2, z3]
        refine ⟨?_, by simp, by simp, rfl, by simp, fun _ => ⟨by simp, rfl⟩⟩
        show tgSet _ (.tp [16, 17]) (.tup [.int q.1, Nd q.2]) _ = _
        simp]
    show Dn.R.ok (Vx.val (D.ml (((rs.map Rd).filter (serP (max h 1))).map serF))) _ = _
    rw [filt_rd, List.map_map]; rfl
  have lf := List.length_filter_le (fun q : Rp => decide (max h 1 ≤ q.1)) rs
  have ip : allPure ((rs.filter fun q => decide (max h 1 ≤ q.1)).map fun q => D.int q.1) = true := List.all_eq_true.mpr fun d hd => by
    obtain ⟨q, _, e⟩ := List.mem_map.mp hd
    subst e; rfl
  have sl : 1 + (rs.filter fun q => decide (max h 1 ≤ q.1)).length ≤ 16777216 := by omega
  rw [iv_seq, ev_frz, ev_d2]
  have e2 : dLst (foldA [(dFrz (dPrim (bltD .max) (foldA [(dVar 7), (dCst (.int 1))])))]) (sQ sc u v x2 x3 k rs h t x10 x11 x12 x13) = .ok (.val (.ml [.int (max h 1)])) (sQ sc u v x2 x3 k rs h t x10 x11 x12 x13) := by simp
  rw [e2, bok, e1, bok]
  simp [ip, sl]
theorem po_since (w : Rw h t rs) (hl : rs.length < 60) {k' : Int} (hk : max h 1 ≤ k' ∧ k' ≤ t) {r : SV} :
    (dIf (dROT (dNotT (dTr (dCall 2 F__law_like (foldA [(dMeth false [(("Row", some "since"), ⟨["self", "k"], F_Row_since, H_Row_since⟩)] "since" (dVar 5) [(dVar 10)]), (dFrz (d2 ixD (dLc (dSeqIt (dFrz (d2 ixD (dVar 9) (dCst (.int 2))))) (.nm 18) (dTB (d2 (cmpD' .GtE) (d2 ixD (dVar 18) (dCst (.int 0))) (dVar 10))) (dFrz (d2 ixD (dVar 18) (dCst (.int 1)))) [18]) (dCst (.int 0))))]))))) r dPass) [] (sQ sc u v x2 x3 k rs h t (some (.int k')) x11 x12 x13) =
      .nx (sQ sc u v x2 x3 k rs h t (some (.int k')) x11 x12 x13) := by
  have fl := falls_len (k := h) rs
  obtain ⟨q, rr, ef⟩ := filt_ne w.vs hk
  have e1 := since_ok h t k' (falls h rs) q rr (by omega) hk ef
  have hq : q ∈ falls h rs := (List.mem_filter.mp (show q ∈ (falls h rs).filter (fun q => decide (k' ≤ q.1)) by rw [ef]; exact List.mem_cons_self)).1
  have e2 := like_spec (pl_mono (k := 12) (by decide) (pl_nd q.2 (nv_sh (w.vs.nm q hq))))
  have e3 : dLc (dSeqIt (dFrz (d2 ixD (dVar 9) (dCst (.int 2))))) (.nm 18) (dTB (d2 (cmpD' .GtE) (d2 ixD (dVar 18) (dCst (.int 0))) (dVar 10))) (dFrz (d2 ixD (dVar 18) (dCst (.int 1)))) [18] (viewS (sQ sc u v x2 x3 k rs h t (some (.int k')) x11 x12 x13)) =
      .ok (.val (.ml (Nd q.2 :: rr.map fun p => Nd p.2))) (viewS (sQ sc u v x2 x3 k rs h t (some (.int k')) x11 x12 x13)) := by
    rw [lc_one (it := ⟨(falls h rs).map Rd, none⟩) (serP k') numF (by simp [rds_pure]) (by simp) src_none (by show ((falls h rs).map Rd).length ≤ _; rw [List.length_map]; omega) fun d hd => by
      obtain ⟨p, hp, e⟩ := List.mem_map.mp hd
      subst e
      have z2 : numF (Rd p) = Nd p.2 := rfl
      have z3 : serP k' (Rd p) = decide (k' ≤ p.1) := rfl
      rw [z2, z3]
      exact ⟨rfl, by simp [-Dn.ix_tup, ix_rd0], fun _ => ⟨by simp [-Dn.ix_tup, ix_rd1], nd_pure _⟩⟩]
    show Dn.R.ok (Vx.val (D.ml ((((falls h rs).map Rd).filter (serP k')).map numF))) _ = _
    rw [filt_rd, ef, List.map_map]; rfl
  have e4 : dMeth false [(("Row", some "since"), ⟨["self", "k"], F_Row_since, H_Row_since⟩)] "since" (dVar 5) [(dVar 10)] (viewS (sQ sc u v x2 x3 k rs h t (some (.int k')) x11 x12 x13)) = .ok (.val (Nd q.2)) (viewS (sQ sc u v x2 x3 k rs h t (some (.int k')) x11 x12 x13)) := by
    simp [rds_pure, e1]
  have hnp : allPure (Nd q.2 :: rr.map fun p => Nd p.2) = true := by
    rw [ap_cons, nd_pure]
    exact List.all_eq_true.mpr fun d hd => by
      obtain ⟨p, _, e⟩ := List.mem_map.mp hd
      subst e; exact nd_pure _
  rw [sv_if, ev_roT, ev_notT, ev_tr, ev_call, ev_foldC, e4, bok, ev_foldC, ev_frz, ev_d2, e3, bok]
  simp [hnp, e2]
theorem po_b5 (w : Rw h t rs) (hl : rs.length < 60) : ∃ x10', po4b5 [] (sQ sc u v x2 x3 k rs h t x10 x11 x12 x13) = .nx (sQ sc u v x2 x3 k rs h t x10' x11 x12 x13) := by
  by_cases c : 0 < t
  · unfold po4b5
    rw [sv_if]
    have e0 : dTB (d2 (cmpD' .Gt) (dVar 8) (dCst (.int 0))) (sQ sc u v x2 x3 k rs h t x10 x11 x12 x13) = .ok true (sQ sc u v x2 x3 k rs h t x10 x11 x12 x13) := by simp [c]
    rw [e0, tokX, if_pos rfl, sv_for, po_src w hl, tokX, lk_none]
    generalize hf : forGo _ _ _ _ _ _ = r
    obtain ⟨s2, rfl, x10', e⟩ := for_of (it := ⟨(max h 1 :: (rs.filter fun q => decide (max h 1 ≤ q.1)).map (·.1)).map .int, none⟩) hf (fun j s => ∃ x10' : Option D, s = sQ sc u v x2 x3 k rs h t x10' x11 x12 x13)
      ⟨x10, rfl⟩ (fun _ _ _ => src_none) (fun j s d ⟨x10, e⟩ hd => by
        subst e
        obtain ⟨k', hk', e⟩ := List.mem_map.mp (List.mem_of_getElem? hd)
        subst e
        have hk2 : max h 1 ≤ k' ∧ k' ≤ t := by
          have := w.ht
          rcases List.mem_cons.mp hk' with z | z
          · omega
          · obtain ⟨q, hq, e⟩ := List.mem_map.mp z
            have hq := List.mem_filter.mp hq
            have := w.le hq.1
            have := of_decide_eq_true hq.2
            omega
        exact ⟨sQ sc u v x2 x3 k rs h t (some (.int k')) x11 x12 x13, _, by simp, .inl (po_since w hl hk2), _, rfl⟩)
    exact ⟨x10', by rw [e]⟩
  · refine ⟨x10, ?_⟩
    unfold po4b5
    simp [c]
end
end K06

set_option Elab.async false
set_option linter.all false
set_option maxRecDepth 100000
set_option maxHeartbeats 4000000
namespace K06
open PySem L2 Dn
/-- values judged one after another -/
theorem po_j {f : EV} {s : Sl} {L : List Nat} {ds : List D} (hg : dSeqIt f s = .ok ⟨ds, none⟩ s) (h3 : 3 < s.length) (hL : 3 ∉ L) (hd : ∀ d ∈ ds, dt 20 d) :
    ∃ x : Option D, dFor (dSeqIt f) (.nm 3) (dIf (dNotT (dTr (dCall 1 F__law_judged (foldA [(dVar 3)])))) (dRet (dCst (.bl false))) dPass) L s = .nx (s.set 3 x) := by
  rw [sv_for, hg, tokX, lk_none]
  generalize hf : forGo _ _ _ _ _ _ = r
  obtain ⟨s2, rfl, x, e⟩ := for_of (it := ⟨ds, none⟩) hf (fun j s2 => ∃ x : Option D, s2 = s.set 3 x)
    ⟨s[3], by simp⟩ (fun _ _ _ => src_none) (fun j s2 d ⟨x, e⟩ hdd => by
      subst e
      have hm := hd d (List.mem_of_getElem? hdd)
      have e1 := judged_spec hm (by decide)
      have pd := dt_pure hm
      refine ⟨s.set 3 (some d), s.set 3 (some d), by simp [hL, List.set_set, h3], .inl ?_, some d, rfl⟩
      simp [h3, pd, e1])
  exact ⟨x, by rw [e]⟩
section
variable {sc : List Int} {u v h t : Int} {rs : List Rp} {x2 x3 x10 x11 x12 x13 x14 x15 x16 x17 x18 : Option D} {k : Int}
theorem po_b7 (w : Rw h t rs) (hl : rs.length < 60) : ∃ u' v' x12', po4b7 [] (sQ sc u v x2 x3 k rs h t x10 (some (.tup ((falls h rs).map Rd))) x12 x13) = .nx (sQ sc u' v' x2 x3 k rs h t x10 (some (.tup ((falls h rs).map Rd))) x12' x13) := by
  have fl := falls_len (k := h) rs
  have e0 := ne_tnil (dt_rds (m := 1) (show (falls h rs).length < 1000 by omega) fun q hq => nv_sh (w.vs.nm q hq)) (by decide)
  have hb : ∀ q ∈ falls h rs, q.1.natAbs < 2 ^ 64 := fun q hq => by
    have := w.vs.nn hq
    have := w.vs.le hq
    have := w.hb
    omega
  unfold po4b7
  cases hst : falls h rs with
  | nil =>
    have e1 : dRng (foldA [(dIfE (dTB (d2 (cmpD' .NotEq) (dVar 11) (dTup (foldA [])))) (dCst (.int 10)) (dCst (.int 0)))]) (sQ sc u v x2 x3 k rs h t x10 (some (.tup ((falls h rs).map Rd))) x12 x13) = .ok ⟨[], none⟩ (sQ sc u v x2 x3 k rs h t x10 (some (.tup ((falls h rs).map Rd))) x12 x13) := by
      rw [hst] at e0
      simp only [List.map_nil] at e0
      simp [hst, e0]
      rfl
    rw [← hst, sv_for, e1, tokX]
    exact ⟨u, v, x12, rfl⟩
  | cons q0 st0 =>
    have e1 : dRng (foldA [(dIfE (dTB (d2 (cmpD' .NotEq) (dVar 11) (dTup (foldA [])))) (dCst (.int 10)) (dCst (.int 0)))]) (sQ sc u v x2 x3 k rs h t x10 (some (.tup ((falls h rs).map Rd))) x12 x13) = .ok ⟨rngD 0 10, none⟩ (sQ sc u v x2 x3 k rs h t x10 (some (.tup ((falls h rs).map Rd))) x12 x13) := by
      rw [hst] at e0
      simp only [List.map_cons] at e0
      simp [hst, e0]
    rw [← hst, sv_for, e1, tokX, lk_none]
    generalize hf : forGo _ _ _ _ _ _ = r
    obtain ⟨s2, rfl, u', v', x12', e⟩ := for_of (it := ⟨rngD 0 10, none⟩) hf (fun j s => ∃ (u' v' : Int) (x12' : Option D), s = sQ sc u' v' x2 x3 k rs h t x10 (some (.tup ((falls h rs).map Rd))) x12' x13)
      ⟨u, v, x12, rfl⟩ (fun _ _ _ => src_none) (fun j s d ⟨u, v, x12, e⟩ hd => by
        subst e
        obtain ⟨hj, rfl⟩ := rng_get hd
        obtain ⟨u', v', d, hdt, e1⟩ := spoilt_spec u v h t (falls h rs) (fun q hq => nv_sh (w.vs.nm q hq)) hb (by rw [hst]; simp) (by omega)
        have e2 := judged_spec hdt (by decide)
        have pd := dt_pure hdt
        refine ⟨sQ sc u v x2 x3 k rs h t x10 (some (.tup ((falls h rs).map Rd))) (some (.int (0 + (j : Int)))) x13, sQ sc u' v' x2 x3 k rs h t x10 (some (.tup ((falls h rs).map Rd))) (some (.int (0 + (j : Int)))) x13, by simp, .inl ?_, u', v', _, rfl⟩
        simp [e1, e2])
    exact ⟨u', v', x12', by rw [e]⟩
def fA (h t : Int) (T : D) (d : D) : D := match d with
  | .int b => .tup [.int (h + b), .int t, T]
  | _ => .non
theorem po_b8 (w : Rw h t rs) (hl : rs.length < 60) : ∃ es : List D, (∀ d ∈ es, dt 20 d) ∧ es.length = 9 ∧ po4b8 [] (sQ sc u v x2 x3 k rs h t x10 (some (.tup ((falls h rs).map Rd))) x12 x13) = .nx (sQ sc u v x2 x3 k rs h t x10 (some (.tup ((falls h rs).map Rd))) x12 (some (.ml es))) := by
  have fl := falls_len (k := h) rs
  obtain ⟨T, hT⟩ : ∃ T, T = D.tup ((falls h rs).map Rd) := ⟨_, rfl⟩
  have dT : dt 19 T := by rw [hT]; exact dt_rds (m := 15) (show (falls h rs).length < 1000 by omega) fun q hq => nv_sh (w.vs.nm q hq)
  have pT := dt_pure dT
  have zT := frz_p pT
  have vT := dt_view dT
  have cT := dt_clo dT
  have hs := bl_str (i := h) (by have := w.h0; have := w.ht; have := w.hb; omega)
  have e1 : ∀ S : Sl, S[7]? = some (some (.int h)) → S[8]? = some (some (.int t)) → S[11]? = some (some T) → S[14]? = some none → dLc (dSeqIt (dFrz (dTup (foldA [(dFrz (d1 negD (dCst (.int 1)))), (dFrz (dCst (.int 1)))])))) (.nm 14) dYes (dFrz (dTup (foldA [(dFrz (d2 (binD .Add) (dVar 7) (dVar 14))), (dFrz (dVar 8)), (dFrz (dVar 11))]))) [14] S = .ok (.val (.ml ([.int (-1), .int 1].map (fA h t T)))) S := by
    intro S g7 g8 g11 g14
    have hlen : 14 < S.length := (List.getElem?_eq_some_iff.mp g14).1
    have g7' : ∀ x, (S.set 14 x)[7]? = some (some (.int h)) := fun x => by rw [List.getElem?_set_ne (by decide)]; exact g7
    have g8' : ∀ x, (S.set 14 x)[8]? = some (some (.int t)) := fun x => by rw [List.getElem?_set_ne (by decide)]; exact g8
    have g11' : ∀ x, (S.set 14 x)[11]? = some (some T) := fun x => by rw [List.getElem?_set_ne (by decide)]; exact g11
    have g14' : ∀ x, (S.set 14 x)[14]? = some x := fun x => List.getElem?_set_self hlen
    rw [lc_map (it := ⟨[.int (-1), .int 1], none⟩) (fA h t T) (by simp) g14 src_none (by simp) fun d hd => by
      obtain ⟨b, rfl⟩ : ∃ b : Int, d = .int b := by
        rcases List.mem_cons.mp hd with z | z
        · exact ⟨_, z⟩
        · exact ⟨1, by simpa using z⟩
      exact ⟨rfl, by simp [g7', g8', g11', g14', pT, zT, fA], rfl⟩]
  have e2 : ∀ S : Sl, S[7]? = some (some (.int h)) → S[8]? = some (some (.int t)) → S[11]? = some (some T) → S[15]? = some none → dLc (dSeqIt (dFrz (dTup (foldA [(dFrz (dCst (.int 0))), (dFrz (d1 negD (dCst (.int 1)))), (dFrz (dVar 8)), (dFrz (d2 (binD .Add) (dVar 8) (dCst (.int 1)))), (dFrz (dPrim (bltD .str) (foldA [(dVar 7)]))), (dFrz (dCst (.bl true))), (dFrz (dCst .non))])))) (.nm 15) dYes (dFrz (dTup (foldA [(dFrz (dVar 15)), (dFrz (dVar 8)), (dFrz (dVar 11))]))) [15] S =
      .ok (.val (.ml ([.int 0, .int (-1), .int t, .int (t + 1), .str (toString h), .bl true, .non].map fun d => .tup [d, .int t, T]))) S := by
    intro S g7 g8 g11 g15
    have hlen : 15 < S.length := (List.getElem?_eq_some_iff.mp g15).1
    have g8' : ∀ x, (S.set 15 x)[8]? = some (some (.int t)) := fun x => by rw [List.getElem?_set_ne (by decide)]; exact g8
    have g11' : ∀ x, (S.set 15 x)[11]? = some (some T) := fun x => by rw [List.getElem?_set_ne (by decide)]; exact g11
    have g15' : ∀ x, (S.set 15 x)[15]? = some x := fun x => List.getElem?_set_self hlen
    rw [lc_map (it := ⟨[.int 0, .int (-1), .int t, .int (t + 1), .str (toString h), .bl true, .non], none⟩) (fun d => .tup [d, .int t, T]) (by simp [g7, g8, hs]) g15 src_none (by simp) fun d hd => by
      have pd : d.pure = true ∧ frz (.val d) = .val d := by
        simp only [List.mem_cons, List.not_mem_nil, or_false] at hd
        rcases hd with z | z | z | z | z | z | z <;> (subst z; exact ⟨rfl, rfl⟩)
      exact ⟨pd.1, by simp [g8', g11', g15', pT, zT, pd.1, pd.2], rfl⟩]
  refine ⟨[.int (-1), .int 1].map (fA h t T) ++ [.int 0, .int (-1), .int t, .int (t + 1), .str (toString h), .bl true, .non].map fun d => .tup [d, .int t, T], ?_, rfl, ?_⟩
  · show ∀ d ∈ [D.tup [.int (h + -1), .int t, T], .tup [.int (h + 1), .int t, T], .tup [.int 0, .int t, T], .tup [.int (-1), .int t, T], .tup [.int t, .int t, T], .tup [.int (t + 1), .int t, T], .tup [.str (toString h), .int t, T], .tup [.bl true, .int t, T], .tup [.non, .int t, T]], dt 20 d
    (repeat' (first | exact dt_int _ | exact dt_non | exact dt_bl | exact dt_str (ofStr_ok _) | assumption | exact List.forall_mem_nil _ | (refine dt_tup (by simp) ?_) | (refine List.forall_mem_cons.mpr ⟨?_, ?_⟩)))
  · unfold po4b8
    rw [← hT, sv_set, ev_ro, ev_d2, e1 _ rfl rfl (by show some (some T.view) = _; rw [vT]) rfl, bokX, e2 _ rfl rfl (by show some (some T.view) = _; rw [vT]) rfl, bokX]
    simp [fA, cT]
theorem po_b9 (w : Rw h t rs) (hl : rs.length < 60) {es : List D} (he : ∀ d ∈ es, dt 20 d) (hel : es.length = 9) : ∃ es' : List D, (∀ d ∈ es', dt 20 d) ∧ es'.length = 14 ∧ po4b9 [] (sQ sc u v x2 x3 k rs h t x10 (some (.tup ((falls h rs).map Rd))) x12 (some (.ml es))) = .nx (sQ sc u v x2 x3 k rs h t x10 (some (.tup ((falls h rs).map Rd))) x12 (some (.ml es'))) := by
  have fl := falls_len (k := h) rs
  obtain ⟨T, hT⟩ : ∃ T, T = D.tup ((falls h rs).map Rd) := ⟨_, rfl⟩
  have dT : dt 19 T := by rw [hT]; exact dt_rds (m := 15) (show (falls h rs).length < 1000 by omega) fun q hq => nv_sh (w.vs.nm q hq)
  have pT := dt_pure dT
  have zT := frz_p pT
  have vT := dt_view dT
  have cT := dt_clo dT
  have hs := bl_str (i := t) (by have := w.h0; have := w.ht; have := w.hb; omega)
  have e2 : ∀ S : Sl, S[7]? = some (some (.int h)) → S[8]? = some (some (.int t)) → S[11]? = some (some T) → S[15]? = some none → dLc (dSeqIt (dFrz (dTup (foldA [(dFrz (d2 (binD .Sub) (dVar 8) (dCst (.int 1)))), (dFrz (d2 (binD .Add) (dVar 8) (dCst (.int 1)))), (dFrz (dCst .non)), (dFrz (dCst (.bl false))), (dFrz (dPrim (bltD .str) (foldA [(dVar 8)])))])))) (.nm 15) dYes (dFrz (dTup (foldA [(dFrz (dVar 7)), (dFrz (dVar 15)), (dFrz (dVar 11))]))) [15] S =
      .ok (.val (.ml ([.int (t - 1), .int (t + 1), .non, .bl false, .str (toString t)].map fun d => .tup [.int h, d, T]))) S := by
    intro S g7 g8 g11 g15
    have hlen : 15 < S.length := (List.getElem?_eq_some_iff.mp g15).1
    have g7' : ∀ x, (S.set 15 x)[7]? = some (some (.int h)) := fun x => by rw [List.getElem?_set_ne (by decide)]; exact g7
    have g11' : ∀ x, (S.set 15 x)[11]? = some (some T) := fun x => by rw [List.getElem?_set_ne (by decide)]; exact g11
    have g15' : ∀ x, (S.set 15 x)[15]? = some x := fun x => List.getElem?_set_self hlen
    rw [lc_map (it := ⟨[.int (t - 1), .int (t + 1), .non, .bl false, .str (toString t)], none⟩) (fun d => .tup [.int h, d, T]) (by simp [g7, g8, hs]) g15 src_none (by simp) fun d hd => by
      have pd : d.pure = true ∧ frz (.val d) = .val d := by
        simp only [List.mem_cons, List.not_mem_nil, or_false] at hd
        rcases hd with z | z | z | z | z <;> (subst z; exact ⟨rfl, rfl⟩)
      exact ⟨pd.1, by simp [g7', g11', g15', pT, zT, pd.1, pd.2], rfl⟩]
  have hd2 : ∀ d ∈ [D.tup [.int h, .int (t - 1), T], .tup [.int h, .int (t + 1), T], .tup [.int h, .non, T], .tup [.int h, .bl false, T], .tup [.int h, .str (toString t), T]], dt 20 d := by
    (repeat' (first | exact dt_int _ | exact dt_non | exact dt_bl | exact dt_str (ofStr_ok _) | assumption | exact List.forall_mem_nil _ | (refine dt_tup (by simp) ?_) | (refine List.forall_mem_cons.mpr ⟨?_, ?_⟩)))
  have pe : allPure es = true := List.all_eq_true.mpr fun d hd => dt_pure (he d hd)
  have ce := cloL_all fun d hd => dt_clo (he d hd)
  refine ⟨es ++ [D.tup [.int h, .int (t - 1), T], .tup [.int h, .int (t + 1), T], .tup [.int h, .non, T], .tup [.int h, .bl false, T], .tup [.int h, .str (toString t), T]], fun d hd => ?_, by simp [hel], ?_⟩
  · rcases List.mem_append.mp hd with z | z
    · exact he d z
    · exact hd2 d z
  · have e3 : dVar 13 (viewS (sQ sc u v x2 x3 k rs h t x10 (some T) x12 (some (.ml es)))) = .ok (.val (.kl es)) (viewS (sQ sc u v x2 x3 k rs h t x10 (some T) x12 (some (.ml es)))) := by simp [pe]
    unfold po4b9
    rw [← hT, sv_set, ev_ro, ev_d2, e3, bokX, e2 _ rfl rfl (by show some (some T.view) = _; rw [vT]) rfl, bokX]
    have q : es.length + 5 ≤ sizeLine := by rw [sizeLine_eq]; omega
    simp [cT, pe, ce, q, cloL_append]
end
end K06

set_option Elab.async false
set_option linter.all false
set_option maxRecDepth 100000
set_option maxHeartbeats 4000000
namespace K06
open PySem L2 Dn
section
variable {sc : List Int} {u v h t : Int} {rs : List Rp} {x2 x3 x10 x11 x12 x13 x14 x15 x16 x17 x18 : Option D} {k : Int}
theorem po_b10 (w : Rw h t rs) (hl : rs.length < 60) {es : List D} (he : ∀ d ∈ es, dt 20 d) (hel : es.length = 14) : ∃ x3', po4b10 [] (sQ sc u v x2 x3 k rs h t x10 (some (.tup ((falls h rs).map Rd))) x12 (some (.ml es))) = .nx (sQ sc u v x2 x3' k rs h t x10 (some (.tup ((falls h rs).map Rd))) x12 (some (.ml es))) := by
  have fl := falls_len (k := h) rs
  have sh' : ∀ q ∈ falls h rs, sh q.2 := fun q hq => nv_sh (w.vs.nm q hq)
  obtain ⟨st, hst⟩ : ∃ st, st = falls h rs := ⟨_, rfl⟩
  rw [← hst] at fl sh'
  have dd : ∀ st' : List Rp, (∀ q ∈ st', q ∈ st) → st'.length < 1000 → dt 19 (.tup (st'.map Rd)) ∧ dt 19 (.lst (st'.map Rd)) := fun st' hs hl' => by
    have h1 := dt_rds (m := 15) hl' fun q hq => sh' q (hs q hq)
    refine ⟨h1, ?_⟩
    rcases h1 with h | ⟨_, h⟩ | ⟨_, h⟩ | ⟨_, h, _⟩ | ⟨ds, h, hl, hx⟩
    · cases h
    · cases h
    · cases h
    · cases h
    · rcases h with h | h
      · injection h with h; subst h
        exact dt_lst hl hx
      · cases h
  obtain ⟨a1, _⟩ := dd (st.drop 1) (fun q hq => List.mem_of_mem_drop hq) (by rw [List.length_drop]; omega)
  obtain ⟨a2, _⟩ := dd st.dropLast (fun q hq => (List.dropLast_sublist st).subset hq) (by rw [List.length_dropLast]; omega)
  obtain ⟨a3, _⟩ := dd (st ++ st) (fun q hq => by rcases List.mem_append.mp hq with z | z <;> exact z) (by rw [List.length_append]; omega)
  obtain ⟨_, a4⟩ := dd st (fun q hq => hq) (by omega)
  have a5 : dt 19 (.tup []) := dt_tup (by simp) (List.forall_mem_nil _)
  have c1 : cutL (st.map Rd) (some 1) none = (st.drop 1).map Rd := by
    cases st with
    | nil => rfl
    | cons q r => rw [cut_tail (by simp), List.map_drop]
  have c2 : cutL (st.map Rd) none (some (-1)) = (st.dropLast).map Rd := by rw [cut_init, List.map_dropLast]
  have l2 : st.length + st.length ≤ 16777216 := by omega
  have e1 : dLc (dSeqIt (dFrz (dTup (foldA [(dFrz (dSl (dVar 11) (dPart (dCst (.int 1))) dNoP)), (dFrz (dSl (dVar 11) dNoP (dPart (d1 negD (dCst (.int 1)))))), (dFrz (d2 (binD .Add) (dVar 11) (dVar 11))), (dFrz (dPrim (bltD .list) (foldA [(dVar 11)]))), (dFrz (dTup (foldA []))), (dFrz (dCst .non))])))) (.nm 15) dYes (dFrz (dTup (foldA [(dFrz (dVar 7)), (dFrz (dVar 8)), (dFrz (dVar 15))]))) [15] (sQ sc u v x2 x3 k rs h t x10 (some (.tup (st.map Rd))) x12 (some (.ml es))) =
      .ok (.val (.ml ([.tup ((st.drop 1).map Rd), .tup (st.dropLast.map Rd), .tup ((st ++ st).map Rd), .lst (st.map Rd), .tup [], .non].map fun d => .tup [.int h, .int t, d]))) (sQ sc u v x2 x3 k rs h t x10 (some (.tup (st.map Rd))) x12 (some (.ml es))) := by
    rw [lc_map (it := ⟨[.tup ((st.drop 1).map Rd), .tup (st.dropLast.map Rd), .tup ((st ++ st).map Rd), .lst (st.map Rd), .tup [], .non], none⟩) (fun d => .tup [.int h, .int t, d])
      (by simp [dSl, dPart, asP, dNoP, op3s, slD, rds_pure, -List.map_drop, -List.map_tail, -List.map_dropLast, -List.drop_one, c1, c2, list_tup, l2]) (by simp) src_none (by simp) fun d hd => by
      have pd : d.pure = true ∧ frz (.val d) = .val d := by
        simp only [List.mem_cons, List.not_mem_nil, or_false] at hd
        rcases hd with z | z | z | z | z | z <;> (subst z; exact ⟨rfl, rfl⟩)
      exact ⟨pd.1, by simp [pd.1, pd.2], rfl⟩]
  have hd2 : ∀ d ∈ [D.tup [.int h, .int t, .tup ((st.drop 1).map Rd)], .tup [.int h, .int t, .tup (st.dropLast.map Rd)], .tup [.int h, .int t, .tup ((st ++ st).map Rd)], .tup [.int h, .int t, .lst (st.map Rd)], .tup [.int h, .int t, .tup []], .tup [.int h, .int t, .non]], dt 20 d := by
    (repeat' (first | exact dt_int _ | exact dt_non | exact a1 | exact a2 | exact a3 | exact a4 | exact a5 | exact List.forall_mem_nil _ | (refine dt_tup (by simp) ?_) | (refine List.forall_mem_cons.mpr ⟨?_, ?_⟩)))
  have pe : allPure es = true := List.all_eq_true.mpr fun d hd => dt_pure (he d hd)
  have q : es.length + 6 ≤ sizeLine := by rw [sizeLine_eq]; omega
  have p2 : allPure [D.tup [.int h, .int t, .tup ((st.drop 1).map Rd)], .tup [.int h, .int t, .tup (st.dropLast.map Rd)], .tup [.int h, .int t, .tup ((st ++ st).map Rd)], .tup [.int h, .int t, .lst (st.map Rd)], .tup [.int h, .int t, .tup []], .tup [.int h, .int t, .non]] = true := rfl
  rw [← hst]
  have e3 : dVar 13 (sQ sc u v x2 x3 k rs h t x10 (some (.tup (st.map Rd))) x12 (some (.ml es))) = .ok (.plc 13) (sQ sc u v x2 x3 k rs h t x10 (some (.tup (st.map Rd))) x12 (some (.ml es))) := by simp
  obtain ⟨x, e⟩ := po_j (f := dFrz (d2 (binD .Add) (dVar 13) (dLc (dSeqIt (dFrz (dTup (foldA [(dFrz (dSl (dVar 11) (dPart (dCst (.int 1))) dNoP)), (dFrz (dSl (dVar 11) dNoP (dPart (d1 negD (dCst (.int 1)))))), (dFrz (d2 (binD .Add) (dVar 11) (dVar 11))), (dFrz (dPrim (bltD .list) (foldA [(dVar 11)]))), (dFrz (dTup (foldA []))), (dFrz (dCst .non))])))) (.nm 15) dYes (dFrz (dTup (foldA [(dFrz (dVar 7)), (dFrz (dVar 8)), (dFrz (dVar 15))]))) [15])))
    (s := sQ sc u v x2 x3 k rs h t x10 (some (.tup (st.map Rd))) x12 (some (.ml es))) (L := []) (ds := es ++ [D.tup [.int h, .int t, .tup ((st.drop 1).map Rd)], .tup [.int h, .int t, .tup (st.dropLast.map Rd)], .tup [.int h, .int t, .tup ((st ++ st).map Rd)], .tup [.int h, .int t, .lst (st.map Rd)], .tup [.int h, .int t, .tup []], .tup [.int h, .int t, .non]])
    (by
      rw [iv_seq, ev_frz, ev_d2, e3, bokX, e1, bokX, op2_ap]
      show (Dn.R.bind (Dn.R.bind (ofD (binD .Add (.ml es) (.ml [D.tup [.int h, .int t, .tup ((st.drop 1).map Rd)], .tup [.int h, .int t, .tup (st.dropLast.map Rd)], .tup [.int h, .int t, .tup ((st ++ st).map Rd)], .tup [.int h, .int t, .lst (st.map Rd)], .tup [.int h, .int t, .tup []], .tup [.int h, .int t, .non]])) _) _) _) = _
      rw [bin_addM, if_pos ⟨q, pe, p2⟩, ofD_some, bokX, frz_ml, if_pos (by rw [show ∀ a b : List D, allPure (a ++ b) = (allPure a && allPure b) from fun a b => List.all_append, pe, p2]; rfl), bokX, seqIt_lst]) (by simp) (by decide) fun d hd => by
      rcases List.mem_append.mp hd with z | z
      · exact he d z
      · exact hd2 d z
  exact ⟨x, e⟩
end
end K06

set_option Elab.async false
set_option linter.all false
set_option maxRecDepth 100000
set_option maxHeartbeats 4000000
namespace K06
open PySem L2 Dn
theorem po_b {sc : List Int} {u v h0 t0 : Int} {rs0 : List Rp} {x2 x3 x4 x5 x6 x7 x8 x9 x10 x11 x12 x13 : Option D} {k : Nat} :
    ∃ u' v' h t rs x3' x10' x11' x12' x13', po4b [] [some (.lst (sc.map .int)), some (.ml [.int u, .int v]), x2, x3, some (.int (k : Int)), x5, x6, x7, x8, x9, x10, x11, x12, x13, none, none, none, none, none] = .nx (sQ sc u' v' x2 x3' (k : Int) rs h t x10' x11' x12' x13') := by
  obtain ⟨a1, b1, e1⟩ := box_spec sc (1 + (k : Int)) (by omega)
  obtain ⟨a2, b2, h, t, rs, w, l, e2⟩ := drawn_spec a1 b1
  have e3 := state_law h t rs (by omega)
  have s1 : po4b1 [] [some (.lst (sc.map .int)), some (.ml [.int u, .int v]), x2, x3, some (.int (k : Int)), x5, x6, x7, x8, x9, x10, x11, x12, x13, none, none, none, none, none] = .nx [some (.lst (sc.map .int)), some (.ml [.int a1, .int b1]), x2, x3, some (.int (k : Int)), x5, x6, x7, x8, x9, x10, x11, x12, x13, none, none, none, none, none] := by
    unfold po4b1; simp [e1]
  have s2 : po4b2 [] [some (.lst (sc.map .int)), some (.ml [.int a1, .int b1]), x2, x3, some (.int (k : Int)), x5, x6, x7, x8, x9, x10, x11, x12, x13, none, none, none, none, none] = .nx [some (.lst (sc.map .int)), some (.ml [.int a2, .int b2]), x2, x3, some (.int (k : Int)), some (row h t (falls h rs)), some (.ml (rs.map Rd)), some (.int h), some (.int t), x9, x10, x11, x12, x13, none, none, none, none, none] := by
    unfold po4b2; simp [e2]
  have s3 : po4b3 [] [some (.lst (sc.map .int)), some (.ml [.int a2, .int b2]), x2, x3, some (.int (k : Int)), some (row h t (falls h rs)), some (.ml (rs.map Rd)), some (.int h), some (.int t), x9, x10, x11, x12, x13, none, none, none, none, none] = .nx (sQ sc a2 b2 x2 x3 (k : Int) rs h t x10 x11 x12 x13) := by
    unfold po4b3; simp [e3]
  obtain ⟨y10, s5⟩ := po_b5 (sc := sc) (u := a2) (v := b2) (x2 := x2) (x3 := x3) (x10 := x10) (x11 := x11) (x12 := x12) (x13 := x13) (k := (k : Int)) w (by omega)
  have s6 : po4b6 [] (sQ sc a2 b2 x2 x3 (k : Int) rs h t y10 x11 x12 x13) = .nx (sQ sc a2 b2 x2 x3 (k : Int) rs h t y10 (some (.tup ((falls h rs).map Rd))) x12 x13) := by
    unfold po4b6; simp
  obtain ⟨u7, v7, y12, s7⟩ := po_b7 (sc := sc) (u := a2) (v := b2) (x2 := x2) (x3 := x3) (x10 := y10) (x12 := x12) (x13 := x13) (k := (k : Int)) w (by omega)
  obtain ⟨es, he, hel, s8⟩ := po_b8 (sc := sc) (u := u7) (v := v7) (x2 := x2) (x3 := x3) (x10 := y10) (x12 := y12) (x13 := x13) (k := (k : Int)) w (by omega)
  obtain ⟨es2, he2, hel2, s9⟩ := po_b9 (sc := sc) (u := u7) (v := v7) (x2 := x2) (x3 := x3) (x10 := y10) (x12 := y12) (k := (k : Int)) w (by omega) he hel
  obtain ⟨y3, s10⟩ := po_b10 (sc := sc) (u := u7) (v := v7) (x2 := x2) (x3 := x3) (x10 := y10) (x12 := y12) (k := (k : Int)) w (by omega) he2 hel2
  refine ⟨u7, v7, h, t, rs, y3, y10, some (.tup ((falls h rs).map Rd)), y12, some (.ml es2), ?_⟩
  unfold po4b
  rw [sv_seq, s1, seqX, sv_seq, s2, seqX, sv_seq, s3, seqX, sv_seq, po_b4 w (by omega), seqX, sv_seq, s5, seqX, sv_seq, s6, seqX, sv_seq, s7, seqX, sv_seq, s8, seqX, sv_seq, s9, seqX, s10]
def fixA : List D := [.non, .tup [], .lst [.int 0, .int 0, .tup []], .tup [.int 0, .int 0], .tup [.int 0, .int 0, .tup [], .tup []], .tup [.int 0, .int 0, .lst []], .tup [.int 0, .int 0, .non], .tup [.int 0, .int 1, .tup []], .tup [.int 0, .int 0, .tup [.tup [.int 0, .non]]], .tup [.int 0, .int 0, .tup [.tup [.int 0, .tup [.int 4, .int 2]]]]]
def fixB : List D := [.tup [.int 1, .int 0, .tup []], .tup [.int 0, .int 0, .tup []], .tup [.int 0, .bl true, .tup [.tup [.int 1, .non]]], .tup [.bl false, .int 0, .tup []], .str "000", .int 0, .tup [.int 0, .int 0, .tup [.tup [.int 0, .tup [.int 4, .int 2]], .tup [.int 0, .tup [.int 5, .int 2]]]]]
theorem fix_dt : ∀ d ∈ fixA ++ fixB, dt 20 d := by
  show ∀ d ∈ [D.non, .tup [], .lst [.int 0, .int 0, .tup []], .tup [.int 0, .int 0], .tup [.int 0, .int 0, .tup [], .tup []], .tup [.int 0, .int 0, .lst []], .tup [.int 0, .int 0, .non], .tup [.int 0, .int 1, .tup []], .tup [.int 0, .int 0, .tup [.tup [.int 0, .non]]], .tup [.int 0, .int 0, .tup [.tup [.int 0, .tup [.int 4, .int 2]]]],
    .tup [.int 1, .int 0, .tup []], .tup [.int 0, .int 0, .tup []], .tup [.int 0, .bl true, .tup [.tup [.int 1, .non]]], .tup [.bl false, .int 0, .tup []], .str "000", .int 0, .tup [.int 0, .int 0, .tup [.tup [.int 0, .tup [.int 4, .int 2]], .tup [.int 0, .tup [.int 5, .int 2]]]]], dt 20 d
  (repeat' (first | exact dt_int _ | exact dt_non | exact dt_bl | exact dt_str (ofStr_ok _) | exact List.forall_mem_nil _ | (refine dt_tup (by simp) ?_) | (refine dt_lst (by simp) ?_) | (refine List.forall_mem_cons.mpr ⟨?_, ?_⟩)))
theorem part_one (sc : List Int) : F__law_part_one [.lst (sc.map .int)] = .ok (.bl true) [.lst (sc.map .int)] := by
  obtain ⟨a1, b1, e1⟩ := box_spec sc 0 (by decide)
  have s1 : po1 [] (some (.lst (sc.map .int)) :: List.replicate 18 none) = .nx (some (.lst (sc.map .int)) :: some (.ml [.int a1, .int b1]) :: List.replicate 17 none) := by
    unfold po1; simp [e1]
  have s2 : po2 [] (some (.lst (sc.map .int)) :: some (.ml [.int a1, .int b1]) :: List.replicate 17 none) = .nx (some (.lst (sc.map .int)) :: some (.ml [.int a1, .int b1]) :: some (.ml fixA) :: List.replicate 16 none) := by
    unfold po2; simp; rfl
  have fa : allPure fixA = true := rfl
  have fb : allPure fixB = true := rfl
  have hg : dSeqIt (dFrz (d2 (binD .Add) (dVar 2) (dLst (foldA [(dFrz (dTup (foldA [(dFrz (dCst (.int 1))), (dFrz (dCst (.int 0))), (dFrz (dTup (foldA [])))]))), (dFrz (dTup (foldA [(dFrz (dCst (.int 0))), (dFrz (dCst (.int 0))), (dFrz (dTup (foldA [])))]))), (dFrz (dTup (foldA [(dFrz (dCst (.int 0))), (dFrz (dCst (.bl true))), (dFrz (dTup (foldA [(dFrz (dTup (foldA [(dFrz (dCst (.int 1))), (dFrz (dCst .non))])))])))]))), (dFrz (dTup (foldA [(dFrz (dCst (.bl false))), (dFrz (dCst (.int 0))), (dFrz (dTup (foldA [])))]))), (dFrz (dCst (.str "000"))), (dFrz (dCst (.int 0))), (dFrz (dTup (foldA [(dFrz (dCst (.int 0))), (dFrz (dCst (.int 0))), (dFrz (dTup (foldA [(dFrz (dTup (foldA [(dFrz (dCst (.int 0))), (dFrz (dTup (foldA [(dFrz (dCst (.int 4))), (dFrz (dCst (.int 2)))])))]))), (dFrz (dTup (foldA [(dFrz (dCst (.int 0))), (dFrz (dTup (foldA [(dFrz (dCst (.int 5))), (dFrz (dCst (.int 2)))])))])))])))])))]))))
      (some (.lst (sc.map .int)) :: some (.ml [.int a1, .int b1]) :: some (.ml fixA) :: List.replicate 16 none) = .ok ⟨fixA ++ fixB, none⟩ (some (.lst (sc.map .int)) :: some (.ml [.int a1, .int b1]) :: some (.ml fixA) :: List.replicate 16 none) := by
    have q : fixA.length + 7 ≤ sizeLine := by decide
    simp [q, fa]
    rfl
  obtain ⟨x3, s3⟩ := po_j (L := []) hg (by simp) (by simp) fix_dt
  have s4 : ∃ u v y3 y4 y5 y6 y7 y8 y9 y10 y11 y12 y13, po4 [] (some (.lst (sc.map .int)) :: some (.ml [.int a1, .int b1]) :: some (.ml fixA) :: x3 :: List.replicate 15 none) = .nx [some (.lst (sc.map .int)), some (.ml [.int u, .int v]), some (.ml fixA), y3, y4, y5, y6, y7, y8, y9, y10, y11, y12, y13, none, none, none, none, none] := by
    unfold po4
    rw [sv_for]
    have er : dRng (foldA [(dCst (.int 4))]) (some (.lst (sc.map .int)) :: some (.ml [.int a1, .int b1]) :: some (.ml fixA) :: x3 :: List.replicate 15 none) = .ok ⟨rngD 0 4, none⟩ (some (.lst (sc.map .int)) :: some (.ml [.int a1, .int b1]) :: some (.ml fixA) :: x3 :: List.replicate 15 none) := by
      simp
    rw [er, tokX, lk_none]
    generalize hf : forGo _ _ _ _ _ _ = r
    obtain ⟨s2, rfl, u, v, y3, y4, y5, y6, y7, y8, y9, y10, y11, y12, y13, e⟩ := for_of (it := ⟨rngD 0 4, none⟩) hf (fun j s => ∃ (u v : Int) (y3 y4 y5 y6 y7 y8 y9 y10 y11 y12 y13 : Option D), s = [some (.lst (sc.map .int)), some (.ml [.int u, .int v]), some (.ml fixA), y3, y4, y5, y6, y7, y8, y9, y10, y11, y12, y13, none, none, none, none, none])
      ⟨a1, b1, x3, none, none, none, none, none, none, none, none, none, none, rfl⟩ (fun _ _ _ => src_none) (fun j s d ⟨u, v, y3, y4, y5, y6, y7, y8, y9, y10, y11, y12, y13, e⟩ hd => by
        subst e
        obtain ⟨hj, rfl⟩ := rng_get hd
        rw [Int.zero_add]
        obtain ⟨u', v', h, t, rs, z3, z10, z11, z12, z13, eb⟩ := @po_b sc u v 0 0 [] (some (.ml fixA)) y3 none y5 y6 y7 y8 y9 y10 y11 y12 y13 j
        exact ⟨_, _, (by rw [tg_nm, set1_ap, if_neg (by simp)]; rfl), .inl eb, u', v', z3, _, _, _, _, _, _, z10, z11, z12, z13, rfl⟩)
    exact ⟨u, v, y3, y4, y5, y6, y7, y8, y9, y10, y11, y12, y13, by rw [e]⟩
  obtain ⟨u, v, y3, y4, y5, y6, y7, y8, y9, y10, y11, y12, y13, s4⟩ := s4
  have key : po [] (some (.lst (sc.map .int)) :: List.replicate 18 none) = .rt (.bl true) [some (.lst (sc.map .int)), some (.ml [.int u, .int v]), some (.ml fixA), y3, y4, y5, y6, y7, y8, y9, y10, y11, y12, y13, none, none, none, none, none] := by
    unfold po
    rw [sv_seq, s1, seqX, sv_seq, s2, seqX, sv_seq]
    have s3' : po3 [] (some (.lst (sc.map .int)) :: some (.ml [.int a1, .int b1]) :: some (.ml fixA) :: List.replicate 16 none) = .nx (some (.lst (sc.map .int)) :: some (.ml [.int a1, .int b1]) :: some (.ml fixA) :: x3 :: List.replicate 15 none) := s3
    rw [s3', seqX, sv_seq, s4, seqX]
    unfold po5
    simp
  rw [po_eq, fn_ap, if_pos ⟨rfl, by decide⟩]
  show endF _ (po [] (some (.lst (sc.map .int)) :: List.replicate 18 none)) = _
  rw [key]
  simp
/-! ### the law -/
theorem pick_ints (ns : List Int) (lo hi : Option Int) (k : Int) : ∃ ms : List Int, pickL (ns.map D.int) lo hi k = ms.map D.int := by
  unfold pickL
  rw [List.length_map]
  generalize sliceRange _ _ _ = is
  induction is with
  | nil => exact ⟨[], rfl⟩
  | cons i is ih =>
    obtain ⟨ms, e⟩ := ih
    rw [List.filterMap_cons, List.getElem?_map]
    cases ns[i]? with
    | none => exact ⟨ms, e⟩
    | some z => exact ⟨z :: ms, by show D.int z :: _ = _; rw [e]; rfl⟩
theorem pick_len {α : Type} (xs : List α) (lo hi : Option Int) (k : Int) : (pickL xs lo hi k).length ≤ (sliceRange (sliceBounds lo hi (some k) xs.length).1 (sliceBounds lo hi (some k) xs.length).2.1 (sliceBounds lo hi (some k) xs.length).2.2).length := List.length_filterMap_le _ _
theorem sl_len : ∀ n : Fin 64, (sliceRange (sliceBounds (some 0) none (some 2) n.val).1 (sliceBounds (some 0) none (some 2) n.val).2.1 (sliceBounds (some 0) none (some 2) n.val).2.2).length ≤ 64 ∧
    (sliceRange (sliceBounds (some 1) none (some 2) n.val).1 (sliceBounds (some 1) none (some 2) n.val).2.1 (sliceBounds (some 1) none (some 2) n.val).2.2).length ≤ 64 := by decide +kernel
theorem stD_kl (ns : List Int) (lo : Int) (hl : ns.length ≤ 63) (h : lo = 0 ∨ lo = 1) : ∃ ms : List Int, Dn.stD (.kl (ns.map .int)) (some lo) none 2 = some (ms.map .int) := by
  obtain ⟨ms, e⟩ := pick_ints ns (some lo) none 2
  refine ⟨ms, ?_⟩
  have z := sl_len ⟨ns.length, by omega⟩
  have q := pick_len (ns.map D.int) (some lo) none 2
  rw [List.length_map] at q
  have hq : (pickL (ns.map D.int) (some lo) none 2).length ≤ sizeLine := by
    rw [sizeLine_eq]
    rcases h with h | h <;> subst h
    · have := z.1; dsimp only at this; omega
    · have := z.2; dsimp only at this; omega
  unfold Dn.stD
  dsimp only
  rw [if_pos ⟨hq, by rw [e]; exact ints_pure ms⟩, e]
theorem law_holds : ∀ ns : List Int, ns.length ≤ 63 → (∀ z ∈ ns, PySem.Builtin.Int.intBits z ≤ 1048576) → ∃ as, d_law.F kw cst (lev t__law_part_one) (tabR kw cst t__law_part_one) false [.kl (ns.map .int)] = .ok (.bl true) as := by
  intro ns hl _
  show ∃ as, F_law [.kl (ns.map .int)] = .ok (.bl true) as
  obtain ⟨m0, e0⟩ := stD_kl ns 0 hl (.inl rfl)
  obtain ⟨m1, e1⟩ := stD_kl ns 1 hl (.inr rfl)
  have p0 := part_one m0
  have p1 := part_two m1
  have q0 := ints_pure m0
  have q1 := ints_pure m1
  refine ⟨[.kl (ns.map .int)], ?_⟩
  rw [f_law]
  simp [dSlSt, op4s, dPart, asP, dNoP, e0, e1, stO, q0, q1, p0, p1]
end K06


open PySem PySem.W PySem.Calls PyProof.Rows
theorem PySem.Challenge.cw_wayskept_k06_whole_states_of_rows_go_on_holds : PySem.Challenge.rw_wayskept_k06_whole_states_of_rows_go_on.Holds := by
  w_on; o_law
  refine HandSHeadRun.head_any (r := OpenLaw.row PySem.Challenge.rw_wayskept_k06_whole_states_of_rows_go_on) (q := view (OpenLaw.row PySem.Challenge.rw_wayskept_k06_whole_states_of_rows_go_on).prog [49]) (H := K06.hk) (ob := K06.ob) (M := 4000) (loose := (["OwnError", "BadNumber", "BadRow", "Refused", "is_int", "is_from", "is_name", "is_tuple", "check_number", "is_below", "is_told", "Row", "made_row", "begun_row", "may_be_first", "is_step", "row_of", "_law_box", "_law_take", "_law_pick", "_law_like", "_law_number", "_law_above", "_law_state", "_law_is_int", "_law_is_told", "_law_stands", "_law_fault", "_law_judged", "_law_drawn"] : List PySem.Str) ++ (["_law_spoilt", "_law_part_one", "_law_least", "_law_deed", "_law_take_in", "_law_due", "_law_since", "_law_answers", "_law_whole", "_law_drawn_two", "_law_near", "_law_apart", "_law_part_two", "MOST_NAME"] : List PySem.Str)) (d := HandSHeadRun.topDef (OpenLaw.row PySem.Challenge.rw_wayskept_k06_whole_states_of_rows_go_on).prog 49) (kwd := []) K06.ob_eq
    (by kernel_rfl) (fun s => by kernel_rfl) K06.run (by kernel_rfl) (by kernel_rfl) (by kernel_rfl) (by rfl) (by first | assumption | decide +kernel) (by decide +kernel) ⟨rfl, rfl, rfl, rfl, rfl, by decide +kernel⟩ ?hw ?hc
  case hw => w_witness2
  case hc => exact Dn.walkD (l := PySem.Challenge.rw_wayskept_k06_whole_states_of_rows_go_on) (n := 63) (x := "script") rfl rfl (by decide) (by kernel_rfl) ⟨rfl, by decide +kernel, by decide +kernel⟩ (by kernel_rfl) rfl K06.allS (by decide +kernel) rfl K06.exsX K06.law_holds

